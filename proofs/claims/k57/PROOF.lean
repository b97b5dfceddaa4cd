import PyProof.Rows.All
import Wide.All
import OpenK.AllK
import Wide.FinOn
import HandS.ForMost
import HandS.Wide
import HandS.IsInst
import HandS.Flow
import HandS.Style
import HandS.StrMore
import HandS.Steps
import HandS.Walk
import HandS.Deep
import KE.SortData
import HandS.Set
import HandS.Strs
import HandS.TupSets
import KE.KStateDown
import Lean
import HandS.Base
import HandS.Call
import HandS.Ends
import HandS.More
import HandS.Words
import HandS.WordsExc
import HandS.Defaults
import HandS.Head0
import HandS.Head1
import HandS.Head2
import HandS.HeadEnd
import HandS.HeadHook1
import HandS.HeadHook2
import PySem.Challenge.RW_lettersonce_k57_words_of_texts
set_option Elab.async false
set_option linter.all false
set_option maxRecDepth 100000
set_option maxHeartbeats 8000000
namespace LO
open PySem PySem.Spec PyProof.Rows L2
section
/-! LoBase: names for readings, step rules over readings, rules for texts and sorts. -/

/-- what a reading leans on: the written part, the program, the world -/
structure Gv where
  K : PySem.W.Frag
  P : Program
  w : World
/-! ### names of readings -/
def rAddI : R2 := rI0 fun i j => .int (i + j)
def rSubI : R2 := rI0 fun i j => .int (i - j)
def rMulI : R2 := rI CMul fun i j => .int (i * j)
def rModI : R2 := rI (fun _ j => 0 < j) fun i j => .int (i % j)
def rDivI : R2 := rI CDivW fun i j => .int (i / j)
def rPowI : R2 := rI CPow fun i j => .int (i ^ j.toNat)
def rAddS : R2 := fun x y H Q => ∃ i j, x = V.str i ∧ y = V.str j ∧ i.length + j.length ≤ sizeLine ∧ Q (V.str (i ++ j)) H
def rLtI : R2 := rI0 fun i j => .bl (decide (i < j))
def rLeI : R2 := rI0 fun i j => .bl (decide (i ≤ j))
def rGtI : R2 := rI0 fun i j => .bl (decide (j < i))
def rGeI : R2 := rI0 fun i j => .bl (decide (j ≤ i))
def rLtS : R2 := fun x y H Q => ∃ i j, x = V.str i ∧ y = V.str j ∧ Q (V.bl (decide (i.cps.toList < j.cps.toList))) H
def rLeS : R2 := fun x y H Q => ∃ i j, x = V.str i ∧ y = V.str j ∧ Q (V.bl (!decide (j.cps.toList < i.cps.toList))) H
def rGtS : R2 := fun x y H Q => ∃ i j, x = V.str i ∧ y = V.str j ∧ Q (V.bl (decide (j.cps.toList < i.cps.toList))) H
def rGeS : R2 := fun x y H Q => ∃ i j, x = V.str i ∧ y = V.str j ∧ Q (V.bl (!decide (i.cps.toList < j.cps.toList))) H
def rNeg : V → Hp → VK → Prop := rU fun i => .int (-i)
def rLen (K : PySem.W.Frag) : List V → Hp → VK → Prop := fun xs H Q => ∃ x n, xs = [x] ∧ LenV K x H n ∧ Q (V.int n) H
def rMin2 : List V → Hp → VK → Prop := fun xs H Q => ∃ i j, xs = [V.int i, V.int j] ∧ Q (V.int (if j < i then j else i)) H
def rMax2 : List V → Hp → VK → Prop := fun xs H Q => ∃ i j, xs = [V.int i, V.int j] ∧ Q (V.int (if j > i then j else i)) H
def rOrd : List V → Hp → VK → Prop := fun xs H Q => ∃ x, xs = [V.str x] ∧ x.length = 1 ∧ Q (V.int (x.cps.getD 0 0 : Nat)) H
def rInt1 : List V → Hp → VK → Prop := fun xs H Q => (∃ i, xs = [V.int i] ∧ Q (V.int i) H) ∨ ∃ k, xs = [V.bl k] ∧ Q (V.int (if k then 1 else 0)) H
def rIntS : List V → Hp → VK → Prop := fun xs H Q => ∃ a n, xs = [V.str a] ∧ PySem.intText? a = some n ∧ a.length ≤ 640 ∧ Q (V.int n) H
def rStrI : List V → Hp → VK → Prop := fun xs H Q => ∃ i, xs = [V.int i] ∧ i.natAbs.log2 < 1920 ∧ Q (V.str (toString i)) H
def rListOf (K : PySem.W.Frag) : List V → Hp → VK → Prop := fun xs H Q => ∃ p ys, xs = [V.ref p] ∧ (SqL K H p ys ∨ SqT K H p ys) ∧ ∀ l, H l = none → Q (V.ref l) (upd H l (.lst ys))
def rTupleOf (K : PySem.W.Frag) : List V → Hp → VK → Prop := fun xs H Q => ∃ p ys, xs = [V.ref p] ∧ ((SqL K H p ys ∧ ∀ l, H l = none → Q (V.ref l) (upd H l (.tup ys))) ∨ (SqT K H p ys ∧ Q (V.ref p) H))
def rLower : V → List V → Hp → VK → Prop := fun x xs H Q => ∃ a, x = V.str a ∧ xs = [] ∧ a.length ≤ 5592405 ∧ Q (V.str (Txt.lower a)) H
def rJoin (K : PySem.W.Frag) : V → List V → Hp → VK → Prop := fun x xs H Q => ∃ a p, ∃ ys : List Str, x = V.str a ∧ xs = [V.ref p] ∧ (SqL K H p (ys.map V.str) ∨ SqT K H p (ys.map V.str)) ∧
  (ys.map (·.length)).sum + ys.length * a.length ≤ 16777216 ∧ Q (V.str (Txt.join a ys)) H

/-! ### steps: what is left of a reading -/
section
variable {K : PySem.W.Frag} {σ : L2.St} {H : Hp} {Q : VK} {QB : Bool → Hp → Prop} {QA : List V → Hp → Prop} {QO : Option Int → Hp → Prop} {D : Ends} {te ta tb tc : TE} {t u : TT} {tr : TA} {ts tz : TS} {r : R2} {i j : Int} {v x y : V} {a b : Str} {p q : Addr} {xs ys : List V}
theorem w_var {k : Nat} (h : σ[k]? = some (some v)) (z : Q v H) : tVar k σ H Q := ⟨v, h, z⟩
theorem w_c (z : Q v H) : tC v σ H Q := z
theorem w_op (z : ta σ H fun x H1 => tb σ H1 fun y H2 => r x y H2 Q) : tOp r ta tb σ H Q := z
theorem w_un {r : V → Hp → VK → Prop} (z : ta σ H fun x H1 => r x H1 Q) : tUn r ta σ H Q := z
theorem w_nil (z : QA [] H) : tNil σ H QA := z
theorem w_cons (z : te σ H fun x H1 => tr σ H1 fun xs H2 => QA (x :: xs) H2) : tCons te tr σ H QA := z
theorem w_cb {r : List V → Hp → VK → Prop} (z : tr σ H fun vs H1 => r vs H1 Q) : tCB r tr σ H Q := z
theorem w_call {sp : Sp} {E : XK} (z : tr σ H fun vs H1 => sp vs H1 Q E) : tCall sp [] E tr σ H Q := by
  unfold tCall
  simp only [List.append_nil]
  exact z
theorem w_tup (z : tr σ H fun xs H1 => xs.length ≤ sizeLine ∧ ∀ p, H1 p = none → Q (V.ref p) (upd H1 p (.tup xs))) : tTup tr σ H Q := z
theorem w_lst (z : tr σ H fun xs H1 => xs.length ≤ sizeLine ∧ ∀ p, H1 p = none → Q (V.ref p) (upd H1 p (.lst xs))) : tLst tr σ H Q := z
theorem w_bm {T : String} {r : V → List V → Hp → VK → Prop} (z : te σ H fun x H1 => tyV K T x H1 ∧ tr σ H1 fun xs H2 => r x xs H2 Q) : tBM K T r te tr σ H Q := z
theorem w_bm0 {T : String} {r : V → List V → Hp → VK → Prop} (z : te σ H fun x H1 => tyV K T x H1 ∧ r x [] H1 Q) : tBM0 K T r te σ H Q := z
theorem w_sl {r : V → Option Int → Option Int → Hp → VK → Prop} {tl th : TO} (z : te σ H fun x H1 => tl σ H1 fun l H2 => th σ H2 fun u H3 => r x l u H3 Q) : tSl r te tl th σ H Q := z
theorem w_part (z : te σ H fun x H1 => ∃ i, x = V.int i ∧ QO (some i) H1) : tPart te σ H QO := z
theorem w_nopart (z : QO none H) : tNoPart σ H QO := z
theorem w_seq (z : ts { D with nx := tz D } σ H) : tSeq ts tz D σ H := z
theorem w_asg {k : Nat} (z : te σ H fun x H1 => D.nx (σ.set k (some x)) H1) : tAsg te (gName k) D σ H := z
theorem w_asgT {g : TG} (z : te σ H fun x H1 => g x σ H1 D.nx) : tAsg te g D σ H := z
theorem w_gsub {to ti : TE} {tset : TSet} {R : L2.St → Hp → Prop} (z : to σ H fun o H1 => ti σ H1 fun i H2 => tset o i v H2 fun H3 => R σ H3) : gSub to ti tset v σ H R := z
/-- a statement, then the rest, with a word Mid between them -/
def tMid (ts tz : TS) : TS := fun D σ H => ∃ Mid : L2.St → Hp → Prop, ts { D with nx := Mid } σ H ∧ ∀ σ' H', Mid σ' H' → tz D σ' H'
theorem pss_mid {X : Cx} {st : Stmt} {rest : List Stmt} (h1 : PS X st ts) (h2 : PSs X rest tz) : PSs X (st :: rest) (tMid ts tz) := by
  refine ⟨fun pins s σ H D I h => ?_⟩
  obtain ⟨Mid, hm, hu⟩ := h
  refine wpAny_execs_cons (thn (h1.run pins s σ H { D with nx := Mid } I hm) fun f s1 q => ?_)
  cases f with
  | next => exact let ⟨σ', H', I', q⟩ := q; h2.run pins s1 σ' H' D I' (hu σ' H' q)
  | ret v => exact q
  | brk => exact q
  | cont => exact q
theorem w_mid (Mid : L2.St → Hp → Prop) (h1 : ts { D with nx := Mid } σ H) (h2 : ∀ σ' H', Mid σ' H' → tz D σ' H') : tMid ts tz D σ H := ⟨Mid, h1, h2⟩
theorem w_drop (z : te σ H fun _ H1 => D.nx σ H1) : tDrop te D σ H := z
theorem w_ret (z : te σ H D.rt) : tRet te D σ H := z
theorem w_retN (z : D.rt V.non H) : tRetN D σ H := z
theorem w_next (z : D.nx σ H) : tNext D σ H := z
theorem w_brk (z : D.bk σ H) : tBreak D σ H := z
theorem w_cont (z : D.ct σ H) : tCont D σ H := z
theorem w_if (z : t σ H fun b H1 => if b = true then ts D σ H1 else tz D σ H1) : tIfS t ts tz D σ H := z
theorem w_ife (z : t σ H fun b H1 => if b = true then ta σ H1 Q else tb σ H1 Q) : tIf t ta tb σ H Q := z
theorem w_test (z : te σ H fun x H' => ∃ k, x = V.bl k ∧ QB k H') : tTest te σ H QB := z
theorem w_B (z : te σ H fun x H' => ∃ k, x = V.bl k ∧ QB k H') : tB te σ H QB := z
theorem w_bl {k : Bool} {R : Bool → Prop} (z : R k) : ∃ k', V.bl k = V.bl k' ∧ R k' := ⟨k, rfl, z⟩
theorem w_not (z : t σ H fun c H1 => QB (!c) H1) : tNot t σ H QB := z
theorem w_and (z : t σ H fun c H1 => if c = true then u σ H1 QB else QB false H1) : tAnd t u σ H QB := z
theorem w_or (z : t σ H fun c H1 => if c = true then QB true H1 else u σ H1 QB) : tOr t u σ H QB := z
theorem w_tru (z : te σ H fun x H' => ∃ k, TruV K x H' k ∧ QB k H') : tTru K te σ H QB := z
theorem w_truS {R : Bool → Prop} (h : a.length ≤ sizeLine) (z : R (decide (a.length ≠ 0))) : ∃ k, TruV K (V.str a) H k ∧ R k := by
  refine ⟨_, ⟨h, rfl⟩, ?_⟩
  have e : ((a.length : Int) != 0) = decide (a.length ≠ 0) := by
    by_cases h0 : a.length = 0
    · simp [h0]
    · rw [decide_eq_true h0]
      simp [h0]
  rw [e]
  exact z
theorem w_andV (z : ta σ H fun x H1 => ∃ c, x = V.bl c ∧ if c = true then tb σ H1 Q else Q (V.bl false) H1) : tAndV ta tb σ H Q := z
theorem w_orV (z : ta σ H fun x H1 => ∃ c, x = V.bl c ∧ if c = true then Q (V.bl true) H1 else tb σ H1 Q) : tOrV ta tb σ H Q := z
theorem w_notV (z : ta σ H fun x H1 => ∃ c, x = V.bl c ∧ Q (V.bl (!c)) H1) : tNotV ta σ H Q := z
theorem w_blI {k : Bool} {A B : Hp → Prop} (z : if k = true then A H else B H) : ∃ c, V.bl k = V.bl c ∧ if c = true then A H else B H := ⟨k, rfl, z⟩
theorem w_aug {k : Nat} {ti : TIp} (h : σ[k]? = some (some x)) (z : te σ H fun y H1 => ti x y H1 fun z H2 => D.nx (σ.set k (some z)) H2) : tAug k te ti D σ H := ⟨x, h, z⟩
theorem ifD {c A B : Prop} [Decidable c] (h1 : c → A) (h2 : ¬ c → B) : if decide c = true then A else B := by
  by_cases h : c
  · rw [decide_eq_true h]
    exact h1 h
  · rw [decide_eq_false h]
    exact h2 h
theorem ifB {c : Bool} {A B : Prop} (h1 : c = true → A) (h2 : c = false → B) : if c = true then A else B := by
  cases c
  · exact h2 rfl
  · exact h1 rfl
theorem ifN {c : Bool} {A B : Prop} (h : if c = true then B else A) : if (!c) = true then A else B := by
  cases c <;> exact h
theorem ifDT {c A B : Prop} [Decidable c] (hc : c) (h1 : A) : if decide c = true then A else B := by
  rw [decide_eq_true hc]
  exact h1
theorem ifDF {c A B : Prop} [Decidable c] (hc : ¬ c) (h1 : B) : if decide c = true then A else B := by
  rw [decide_eq_false hc]
  exact h1
/-! operations on values -/
theorem p_addI (z : Q (V.int (i + j)) H) : rAddI (V.int i) (V.int j) H Q := ⟨i, j, rfl, rfl, z⟩
theorem p_subI (z : Q (V.int (i - j)) H) : rSubI (V.int i) (V.int j) H Q := ⟨i, j, rfl, rfl, z⟩
theorem p_mulI (h : (-(2 ^ 64) < i ∧ i < 2 ^ 64) ∨ (-(2 ^ 64) < j ∧ j < 2 ^ 64)) (z : Q (V.int (i * j)) H) : rMulI (V.int i) (V.int j) H Q := ⟨i, j, rfl, rfl, h, z⟩
theorem p_modI (h : 0 < j) (z : Q (V.int (i % j)) H) : rModI (V.int i) (V.int j) H Q := ⟨i, j, rfl, rfl, h, z⟩
theorem p_divI (h : 0 < j) (h2 : j < 2 ^ 63) (z : Q (V.int (i / j)) H) : rDivI (V.int i) (V.int j) H Q := ⟨i, j, rfl, rfl, wide_div (b := 63) h (by omega) (by decide) (by decide), z⟩
theorem p_powI (h : 0 ≤ j ∧ j ≤ 1000000 ∧ i.natAbs < 2 ^ 64) (z : Q (V.int (i ^ j.toNat)) H) : rPowI (V.int i) (V.int j) H Q := ⟨i, j, rfl, rfl, h, z⟩
theorem p_ltI (z : Q (V.bl (decide (i < j))) H) : rLtI (V.int i) (V.int j) H Q := ⟨i, j, rfl, rfl, z⟩
theorem p_leI (z : Q (V.bl (decide (i ≤ j))) H) : rLeI (V.int i) (V.int j) H Q := ⟨i, j, rfl, rfl, z⟩
theorem p_gtI (z : Q (V.bl (decide (j < i))) H) : rGtI (V.int i) (V.int j) H Q := ⟨i, j, rfl, rfl, z⟩
theorem p_geI (z : Q (V.bl (decide (j ≤ i))) H) : rGeI (V.int i) (V.int j) H Q := ⟨i, j, rfl, rfl, z⟩
theorem p_eqI (z : Q (V.bl (decide (i = j))) H) : rEq (V.int i) (V.int j) H Q := ⟨rfl, by
  have e : decide (V.int i = V.int j) = decide (i = j) := by by_cases h : i = j <;> simp [h]
  rw [e]; exact z⟩
theorem p_neI (z : Q (V.bl (decide (i ≠ j))) H) : rNe (V.int i) (V.int j) H Q := ⟨rfl, by
  have e : (!decide (V.int i = V.int j)) = decide (i ≠ j) := by by_cases h : i = j <;> simp [h]
  rw [e]; exact z⟩
theorem p_eqS (z : Q (V.bl (decide (a = b))) H) : rEq (V.str a) (V.str b) H Q := ⟨rfl, by
  have e : decide (V.str a = V.str b) = decide (a = b) := by by_cases h : a = b <;> simp [h]
  rw [e]; exact z⟩
theorem p_neS (z : Q (V.bl (decide (a ≠ b))) H) : rNe (V.str a) (V.str b) H Q := ⟨rfl, by
  have e : (!decide (V.str a = V.str b)) = decide (a ≠ b) := by by_cases h : a = b <;> simp [h]
  rw [e]; exact z⟩
theorem p_addS (h : a.length + b.length ≤ sizeLine) (z : Q (V.str (a ++ b)) H) : rAddS (V.str a) (V.str b) H Q := ⟨a, b, rfl, rfl, h, z⟩
theorem p_ltS (z : Q (V.bl (decide (a.cps.toList < b.cps.toList))) H) : rLtS (V.str a) (V.str b) H Q := ⟨a, b, rfl, rfl, z⟩
theorem p_leS (z : Q (V.bl (!decide (b.cps.toList < a.cps.toList))) H) : rLeS (V.str a) (V.str b) H Q := ⟨a, b, rfl, rfl, z⟩
theorem p_int1 (z : Q (V.int i) H) : rInt1 [V.int i] H Q := .inl ⟨i, rfl, z⟩
theorem p_strI (h : i.natAbs.log2 < 1920) (z : Q (V.str (toString i)) H) : rStrI [V.int i] H Q := ⟨i, rfl, h, z⟩
theorem p_min2 (z : Q (V.int (if j < i then j else i)) H) : rMin2 [V.int i, V.int j] H Q := ⟨i, j, rfl, z⟩
theorem p_max2 (z : Q (V.int (if j > i then j else i)) H) : rMax2 [V.int i, V.int j] H Q := ⟨i, j, rfl, z⟩
theorem p_lenS (h : a.length ≤ sizeLine) (z : Q (V.int a.length) H) : rLen K [V.str a] H Q := ⟨_, _, rfl, ⟨h, rfl⟩, z⟩
theorem p_lenL (h : SqL K H p xs) (z : Q (V.int xs.length) H) : rLen K [V.ref p] H Q := ⟨_, _, rfl, .inl ⟨_, h, rfl⟩, z⟩
theorem p_lenT (h : SqT K H p xs) (z : Q (V.int xs.length) H) : rLen K [V.ref p] H Q := ⟨_, _, rfl, .inr ⟨_, h, rfl⟩, z⟩
theorem p_ixL (h : SqL K H p xs) (h2 : atI xs i = some v) (z : Q v H) : rIxL K (V.ref p) (V.int i) H Q := ⟨p, xs, i, v, rfl, rfl, h, h2, z⟩
theorem p_ixT (h : SqT K H p xs) (h2 : atI xs i = some v) (z : Q v H) : rIxT K (V.ref p) (V.int i) H Q := ⟨p, xs, i, v, rfl, rfl, h, h2, z⟩
theorem p_ixS {c : Nat} (h : a.length ≤ sizeLine) (h2 : atI a.cps.toList i = some c) (z : Q (V.str ⟨#[c]⟩) H) : rIxS (V.str a) (V.int i) H Q := ⟨a, i, c, rfl, rfl, h, h2, z⟩
theorem p_inS {c : Nat} (z : Q (V.bl (decide (c ∈ a.cps.toList))) H) : rInS (V.str ⟨#[c]⟩) (V.str a) H Q := ⟨c, a, rfl, rfl, z⟩
theorem p_notInS {c : Nat} (z : Q (V.bl (decide (c ∉ a.cps.toList))) H) : rNotInS (V.str ⟨#[c]⟩) (V.str a) H Q := ⟨c, a, rfl, rfl, by
  have e : (!decide (c ∈ a.cps.toList)) = decide (c ∉ a.cps.toList) := by by_cases h : c ∈ a.cps.toList <;> simp [h]
  rw [e]; exact z⟩
theorem p_setL {k : Nat} {R : Hp → Prop} (h : H p = some (.lst xs)) (h2 : ixN xs.length i = some k) (z : R (upd H p (.lst (xs.set k v)))) : rSetL (V.ref p) (V.int i) v H R := ⟨p, xs, i, k, rfl, rfl, h, h2, z⟩
theorem p_append (h : H p = some (.lst xs)) (h2 : xs.length < sizeLine) (z : Q V.non (upd H p (.lst (xs ++ [v])))) : rAppend (V.ref p) [v] H Q := ⟨p, xs, v, rfl, rfl, h, h2, z⟩
theorem p_lower (h : a.length ≤ 5592405) (z : Q (V.str (Txt.lower a)) H) : rLower (V.str a) [] H Q := ⟨a, rfl, rfl, h, z⟩
theorem p_slS {lo hi : Option Int} (h : a.length ≤ sizeLine) (z : Q (V.str (cutS a lo hi)) H) : rSlS (V.str a) lo hi H Q := ⟨a, rfl, h, z⟩
theorem p_part {R : Int → Prop} (z : R i) : ∃ i', V.int i = V.int i' ∧ R i' := ⟨i, rfl, z⟩
theorem p_ref {R : Addr → Prop} (z : R p) : ∃ p', V.ref p = V.ref p' ∧ R p' := ⟨p, rfl, z⟩
theorem p_strE {R : Str → Prop} (z : R a) : ∃ a', V.str a = V.str a' ∧ R a' := ⟨a, rfl, z⟩
theorem tyS {T : String} (h : T = "str") : tyV K T (V.str a) H := h
theorem tyL (h : H p = some (.lst xs)) : tyV K "list" (V.ref p) H := .inl ⟨rfl, _, SqL.of h⟩
/-! loops -/
theorem w_for {wi : TI} {g : TG} {tb : TS} (z : wi σ H fun J H1 => ∃ W : Nat → Nat → L2.St → Hp → Prop, (∃ m, W 0 m σ H1) ∧ ∀ i m σ H, W i m σ H →
    (J.stop i H ∧ D.nx σ H) ∨ (J.go i H ∧ ∃ N : L2.St → Hp → Prop, (∀ σ' H', N σ' H' → ∃ m', m' < m ∧ W (i + 1) m' σ' H') ∧ ∀ x H', J.yld i H x H' → g x σ H' fun σ2 H2 => tb { D with nx := N, ct := N, bk := D.nx } σ2 H2)) : tFor wi g tb D σ H := z
theorem w_rng1 {R : It → Hp → Prop} (z : tr σ H fun vs H1 => ∃ j : Int, vs = [V.int j] ∧ -(2 ^ 62) ≤ j ∧ j < 2 ^ 62 ∧ R (Itr 0 j.toNat) H1) : iRng1 tr σ H R := z
theorem w_rng2 {R : It → Hp → Prop} (z : tr σ H fun vs H1 => ∃ i j : Int, vs = [V.int i, V.int j] ∧ (-(2 ^ 62) ≤ i ∧ i < 2 ^ 62 ∧ -(2 ^ 62) ≤ j ∧ j < 2 ^ 62) ∧ R (Itr i (j - i).toNat) H1) : iRng2 tr σ H R := z
theorem w_ilist {R : It → Hp → Prop} (z : te σ H fun x H1 => ∃ a, x = V.ref a ∧ (∃ xs, SqL K H1 a xs) ∧ R (Itl K a) H1) : iList K te σ H R := z
theorem w_itup {R : It → Hp → Prop} (z : te σ H fun x H1 => ∃ a, x = V.ref a ∧ (∃ xs, SqT K H1 a xs) ∧ R (Itt K a) H1) : iTup K te σ H R := z
theorem w_istr {R : It → Hp → Prop} (z : te σ H fun v H1 => ∃ x, v = V.str x ∧ R (Its x) H1) : iStr te σ H R := z
/-- range(n): the turn's number is k -/
theorem l_rng1 {n : Int} {g : TG} {tb : TS} (Pv : Nat → L2.St → Hp → Prop) (hb : -(2 ^ 62) ≤ n ∧ n < 2 ^ 62) (h0 : Pv 0 σ H)
    (hs : ∀ k σ' H', k < n.toNat → Pv k σ' H' → g (V.int (k : Int)) σ' H' fun σ2 H2 => tb { D with nx := Pv (k + 1), ct := Pv (k + 1), bk := D.nx } σ2 H2) (hd : ∀ σ' H', Pv n.toNat σ' H' → D.nx σ' H') :
    ∃ j : Int, [V.int n] = [V.int j] ∧ -(2 ^ 62) ≤ j ∧ j < 2 ^ 62 ∧ ∃ W : Nat → Nat → L2.St → Hp → Prop, (∃ m, W 0 m σ H) ∧ ∀ i m σ H, W i m σ H →
    ((Itr 0 j.toNat).stop i H ∧ D.nx σ H) ∨ ((Itr 0 j.toNat).go i H ∧ ∃ N : L2.St → Hp → Prop, (∀ σ' H', N σ' H' → ∃ m', m' < m ∧ W (i + 1) m' σ' H') ∧ ∀ x H', (Itr 0 j.toNat).yld i H x H' → g x σ H' fun σ2 H2 => tb { D with nx := N, ct := N, bk := D.nx } σ2 H2) := by
  refine ⟨n, rfl, hb.1, hb.2, for_range (lo := 0) (n := n.toNat) Pv h0 (fun k σ' H' hk p => ?_) hd⟩
  rw [Int.zero_add]
  exact hs k σ' H' hk p
/-- for c in a text -/
theorem l_str {z : Str} {g : TG} {tb : TS} (Pv : Nat → L2.St → Hp → Prop) (h0 : Pv 0 σ H)
    (hs : ∀ k c σ' H', z.cps.toList[k]? = some c → Pv k σ' H' → g (V.str ⟨#[c]⟩) σ' H' fun σ2 H2 => tb { D with nx := Pv (k + 1), ct := Pv (k + 1), bk := D.nx } σ2 H2) (hd : ∀ σ' H', Pv z.cps.toList.length σ' H' → D.nx σ' H') :
    ∃ x, V.str z = V.str x ∧ ∃ W : Nat → Nat → L2.St → Hp → Prop, (∃ m, W 0 m σ H) ∧ ∀ i m σ H, W i m σ H →
    ((Its x).stop i H ∧ D.nx σ H) ∨ ((Its x).go i H ∧ ∃ N : L2.St → Hp → Prop, (∀ σ' H', N σ' H' → ∃ m', m' < m ∧ W (i + 1) m' σ' H') ∧ ∀ v H', (Its x).yld i H v H' → g v σ H' fun σ2 H2 => tb { D with nx := N, ct := N, bk := D.nx } σ2 H2) := by
  refine ⟨z, rfl, for_it walk_str Pv h0 (fun _ _ _ _ _ => trivial) (fun k x σ' H1 H' hk p y => ?_) ?_⟩
  · obtain ⟨e, c, hc, e2⟩ := y
    subst e e2
    exact hs k c σ' H' (by rw [← hc, Array.getElem?_toList]) p
  · intro σ' H' p
    exact hd σ' H' (by rw [Array.length_toList]; exact p)
/-- for x in a list that stays as it is -/
theorem l_list {a : Addr} {g : TG} {tb : TS} (Pv : Nat → L2.St → Hp → Prop) (hL : SqL K H a xs) (h0 : Pv 0 σ H) (hl : ∀ k σ' H', k ≤ xs.length → Pv k σ' H' → SqL K H' a xs)
    (hs : ∀ k x σ' H', xs[k]? = some x → Pv k σ' H' → g x σ' H' fun σ2 H2 => tb { D with nx := Pv (k + 1), ct := Pv (k + 1), bk := D.nx } σ2 H2) (hd : ∀ σ' H', Pv xs.length σ' H' → D.nx σ' H') :
    ∃ b, V.ref a = V.ref b ∧ (∃ xs, SqL K H b xs) ∧ ∃ W : Nat → Nat → L2.St → Hp → Prop, (∃ m, W 0 m σ H) ∧ ∀ i m σ H, W i m σ H →
    ((Itl K b).stop i H ∧ D.nx σ H) ∨ ((Itl K b).go i H ∧ ∃ N : L2.St → Hp → Prop, (∀ σ' H', N σ' H' → ∃ m', m' < m ∧ W (i + 1) m' σ' H') ∧ ∀ v H', (Itl K b).yld i H v H' → g v σ H' fun σ2 H2 => tb { D with nx := N, ct := N, bk := D.nx } σ2 H2) :=
  ⟨a, rfl, ⟨xs, hL⟩, for_list Pv h0 hl hs hd⟩
/-- for x in a tuple -/
theorem l_tup {a : Addr} {g : TG} {tb : TS} (Pv : Nat → L2.St → Hp → Prop) (hL : SqT K H a xs) (h0 : Pv 0 σ H) (hl : ∀ k σ' H', k ≤ xs.length → Pv k σ' H' → SqT K H' a xs)
    (hs : ∀ k x σ' H', xs[k]? = some x → Pv k σ' H' → g x σ' H' fun σ2 H2 => tb { D with nx := Pv (k + 1), ct := Pv (k + 1), bk := D.nx } σ2 H2) (hd : ∀ σ' H', Pv xs.length σ' H' → D.nx σ' H') :
    ∃ b, V.ref a = V.ref b ∧ (∃ xs, SqT K H b xs) ∧ ∃ W : Nat → Nat → L2.St → Hp → Prop, (∃ m, W 0 m σ H) ∧ ∀ i m σ H, W i m σ H →
    ((Itt K b).stop i H ∧ D.nx σ H) ∨ ((Itt K b).go i H ∧ ∃ N : L2.St → Hp → Prop, (∀ σ' H', N σ' H' → ∃ m', m' < m ∧ W (i + 1) m' σ' H') ∧ ∀ v H', (Itt K b).yld i H v H' → g v σ H' fun σ2 H2 => tb { D with nx := N, ct := N, bk := D.nx } σ2 H2) :=
  ⟨a, rfl, ⟨xs, hL⟩, for_tup Pv h0 hl hs hd⟩
theorem w_gname {k : Nat} {R : L2.St → Hp → Prop} (z : R (σ.set k (some v)) H) : gName k v σ H R := z
end
end
section
/-! LoSet: set(texts), sorted of such a set, sorted of any data. -/

/-! ### a set of texts -/
def sKey (e : Int × Value) : Str := match e.2 with
  | .str x _ => x
  | _ => Str.empty
def SGood (w : World) (e : Int × Value) : Prop := ∃ x tk, e.2 = Value.str x tk ∧ e.1 = hashStr w x
/-- the set of texts at a: its members are those of L -/
def SetX (w : World) (h : Heap) (a : Addr) (L : List Str) : Prop :=
  ∃ o es ep t, h.get? a = some o ∧ o.ExactSet ∧ o.data = .set es ep t ∧ (∀ e ∈ es.toList, SGood w e) ∧ (es.toList.map sKey).Perm L ∧ L.Nodup ∧ es.size < scanBound ∧ t.fits es.size = true ∧
    Ris t.place.toList ∧ (w.params.followText "set-order" = true ∨ t.led = true)
theorem SetX.at {w : World} {h h' : Heap} {a : Addr} {L : List Str} (R : SetX w h a L) (k : ∀ o, h.get? a = some o → h'.get? a = some o) : SetX w h' a L :=
  let ⟨o, es, ep, t, ho, r⟩ := R
  ⟨o, es, ep, t, k o ho, r⟩
theorem SetX.len {w : World} {h : Heap} {a : Addr} {L : List Str} (R : SetX w h a L) : ∃ o, h.get? a = some o :=
  let ⟨o, _, _, _, ho, _⟩ := R
  ⟨o, ho⟩
section
variable {P : Program} {w : World} {A : Around} {E : Value → Shared → Prop} {s : Shared} {a : Addr} {L : List Str}
theorem sgood_el {l : List (Int × Value)} (g : ∀ e ∈ l, SGood w e) : ElemsOf (PySem.strKind P w) l := fun e he => by
  obtain ⟨k, tk, h1, h2⟩ := g e he
  exact ⟨⟨k, by rw [h1]; exact strKind_is P w k tk, h2⟩, by rw [h1] <;> rfl⟩
theorem sgood_is {e : Int × Value} (g : SGood w e) (k : Str) : (PySem.strKind P w).is k e.2 = true ↔ sKey e = k := by
  obtain ⟨k0, tk, h1, _⟩ := g
  unfold sKey
  rw [h1]
  show (Value.isStrOf k (.str k0 tk) = true) ↔ k0 = k
  simp [Value.isStrOf]
theorem sgood_mem {l : List (Int × Value)} (g : ∀ e ∈ l, SGood w e) (k : Str) : k ∈ l.map sKey ↔ ∃ e ∈ l, (PySem.strKind P w).is k e.2 = true := by
  constructor
  · intro m
    obtain ⟨e, he, q⟩ := List.mem_map.mp m
    exact ⟨e, he, (sgood_is (g e he) k).2 q⟩
  · rintro ⟨e, he, q⟩
    exact List.mem_map.mpr ⟨e, he, (sgood_is (g e he) k).1 q⟩
/-- the end of an addition: the new table is stored, and laid anew where it is too full -/
theorem setX_tail {g : Bool → Sem Unit} (hg : ∀ (b : Bool) (s₁ : Shared) (Q' : Unit → Shared → Prop), Q' () s₁ → wpAny (model P w) A (g b) Q' E s₁)
    {o : Obj} {es : Array (Int × Value)} {ep : Nat} {t : SetTable} (ho : s.heap.get? a = some o) (hex : o.ExactSet) (hd : o.data = .set es ep t)
    {es1 : Array (Int × Value)} {t2 : SetTable} {L' : List Str} (g1 : ∀ e ∈ es1.toList, SGood w e) (p1 : (es1.toList.map sKey).Perm L') (nd1 : L'.Nodup)
    (hb1 : es1.size < scanBound) (hf2 : t2.fits es1.size = true) (hr : Ris t2.place.toList) (hl : w.params.followText "set-order" = true ∨ t2.led = true) {wasDummy : Bool} {R : Option Bool → Shared → Prop}
    (hR : ∀ h', Heap.SameBut a s.heap h' → SetX w h' a L' → R (some true) { s with heap := h' }) :
    wpAny (model P w) A (do
        storeSet a es1 t2
        if (!wasDummy && t2.tooFull) = true then do
            g (relayAll t2 es1 (SetTable.grown es1.size)).2.2
            storeSet a (relayAll t2 es1 (SetTable.grown es1.size)).1 (relayAll t2 es1 (SetTable.grown es1.size)).2.1
            pure (some true)
          else pure (some true)) R E s := by
  have ho1 := store_at (es' := es1) (t' := t2) ho hd
  have sb1 := Heap.SameBut.update s.heap a (Obj.putSet es1 t2)
  refine wpAny_bind (wpAny_storeSet_of ho hd ?_ (fits_of_scanBound hb1))
  split
  · have pm := relayAll_perm t2 es1 (SetTable.grown es1.size)
    have hf3 := relayAll_fits t2 es1 (SetTable.grown es1.size)
    have hr3 := relayAll_ris t2 es1 (SetTable.grown es1.size)
    have hl3 := relayAll_led t2 es1 (SetTable.grown es1.size)
    generalize relayAll t2 es1 (SetTable.grown es1.size) = Z at pm hf3 hr3 hl3 ⊢
    obtain ⟨es2, t3, gave⟩ := Z
    dsimp only at pm hf3 hr3 hl3 ⊢
    have hb2 : es2.size < scanBound := by
      rw [← Array.length_toList, pm.length_eq, Array.length_toList]
      exact hb1
    have ho2 := store_at (es' := es2) (t' := t3) ho1 rfl
    refine wpAny_bind (hg _ _ _ (wpAny_bind (wpAny_storeSet_of ho1 rfl (wpAny_pure (hR _ (sb1.trans (Heap.SameBut.update _ a _)) ?_)) (fits_of_scanBound hb2))))
    exact ⟨_, es2, _, t3, ho2, hex, rfl, fun e he => g1 e (pm.mem_iff.mp he), (pm.map sKey).trans p1, nd1, hb2, hf3, hr3, hl.imp id fun z => by rw [hl3]; exact z⟩
  · exact wpAny_pure (hR _ sb1 ⟨_, es1, _, t2, ho1, hex, rfl, g1, p1, nd1, hb1, hf2, hr, hl⟩)
/-- one text more -/
def addX (L : List Str) (x : Str) : List Str := if x ∈ L then L else x :: L
theorem setX_add {k : Str} {tk : Tok} {Q : Bool → Shared → Prop} (R : SetX w s.heap a L) (room : L.length + 1 < scanBound)
    (hQ : ∀ b h', Heap.SameBut a s.heap h' → SetX w h' a (addX L k) → Q b { s with heap := h' }) :
    wpAny (model P w) A (setAddHashed a (.str k tk) ((PySem.strKind P w).hash k)) Q E s := by
  obtain ⟨o, es, ep, t, ho, hex, hd, g, pL, nd, hb, hf, hr, hl⟩ := R
  have hlen : es.size = L.length := by
    have q := pL.length_eq
    rw [List.length_map, Array.length_toList] at q
    exact q
  have hkey : (PySem.strKind P w).is k (.str k tk) = true := strKind_is P w k tk
  have hsc : (Value.str k tk).scannable = true := rfl
  have hel : ElemsOf (PySem.strKind P w) es.toList := sgood_el g
  unfold setAddHashed setAddHashedIn
  refine wpAny_holding (wpAny_bind (wpAny_setState_of ho hd hf ?_))
  dsimp only
  rw [byScan_of hsc hb hel]
  simp only [↓reduceIte]
  unfold setAddByScan
  refine wpAny_bind (wpAny_bind (wpAny_rule (wpAny_bind (wpAny_setScan_of hkey ho hd hf hel ?_))))
  cases hfi : List.findIdx? (fun e => (PySem.strKind P w).is k e.2) es.toList with
  | some j =>
    dsimp only
    obtain ⟨hj, pj, _⟩ := List.findIdx?_eq_some_iff_getElem.mp hfi
    have hk : k ∈ L := pL.mem_iff.mp ((sgood_mem (P := P) g k).2 ⟨es.toList[j], List.getElem_mem hj, pj⟩)
    refine wpAny_pure (wpAny_pure (hQ _ s.heap (Heap.SameBut.refl a s.heap) ?_))
    unfold addX
    rw [if_pos hk]
    exact ⟨o, es, ep, t, ho, hex, hd, g, pL, nd, hb, hf, hr, hl⟩
  | none =>
    dsimp only
    have hk : k ∉ L := fun z => by
      obtain ⟨e, he, q⟩ := (sgood_mem (P := P) g k).1 (pL.mem_iff.mpr z)
      have c := List.findIdx?_eq_none_iff.mp hfi e he
      rw [q] at c
      cases c
    have hgw : ∀ (b : Bool) {s₁ : Shared} {Q' : Unit → Shared → Prop}, Q' () s₁ → wpAny (model P w) A (match b with | true => rule "set.scan.the-table-gave-way" | false => pure ()) Q' E s₁ :=
      fun b s₁ Q' q => by cases b <;> first | exact wpAny_pure q | exact wpAny_rule q
    have pm := layNew_perm t es ((PySem.strKind P w).hash k) (.str k tk)
    have hf1 := layNew_fits t es ((PySem.strKind P w).hash k) (.str k tk)
    have hr1 := layNew_ris t es ((PySem.strKind P w).hash k) (.str k tk) hr
    have hl1 := layNew_led t es ((PySem.strKind P w).hash k) (.str k tk)
    generalize layNew t es ((PySem.strKind P w).hash k) (.str k tk) = Z at pm hf1 hr1 hl1 ⊢
    obtain ⟨es1, t1, wasDummy, gave⟩ := Z
    dsimp only at pm hf1 hr1 hl1 ⊢
    rw [Array.toList_push] at pm
    have pc : es1.toList.Perm (((PySem.strKind P w).hash k, Value.str k tk) :: es.toList) := pm.trans (List.perm_append_singleton _ _)
    have p1 : (es1.toList.map sKey).Perm (addX L k) := by
      unfold addX
      rw [if_neg hk]
      exact (pc.map sKey).trans (pL.cons k)
    have g1 : ∀ e ∈ es1.toList, SGood w e := fun e he => by
      rcases List.mem_cons.mp (pc.mem_iff.mp he) with z | z
      · rw [z]; exact ⟨k, tk, rfl, rfl⟩
      · exact g e z
    have nd1 : (addX L k).Nodup := by
      unfold addX
      rw [if_neg hk]
      exact List.nodup_cons.mpr ⟨hk, nd⟩
    have hb1 : es1.size < scanBound := by
      rw [← Array.length_toList, pc.length_eq, List.length_cons, Array.length_toList, hlen]
      exact room
    have hled : w.params.followText "set-order" = true ∨ t1.led = true := hl.imp id fun z => by rw [hl1]; exact z
    have gw : ∀ (b : Bool) (s₁ : Shared) (Q' : Unit → Shared → Prop), Q' () s₁ → wpAny (model P w) A (match b with | true => rule "set.scan.the-table-gave-way" | false => pure ()) Q' E s₁ := fun b s₁ Q' q => hgw b q
    refine wpAny_bind (hgw _ ?_)
    split
    · refine wpAny_bind ?_
      rw [hashByValue_scannable 8 hsc]
      refine wpAny_pure (setX_tail ?_ ho hex hd g1 p1 nd1 hb1 ?_ ?_ ?_ ?_)
      · intro b s₁ Q' q; cases b <;> first | exact wpAny_pure q | exact wpAny_rule q
      · first | (split <;> first | exact hf1 | exact SetTable.fits_plain_off hf1) | exact hf1
      · first | (split <;> exact hr1) | exact hr1
      · first | (split <;> exact hled) | exact hled
      · intro h' sb r; dsimp only; exact wpAny_pure (hQ _ h' sb r)
    · refine wpAny_bind (wpAny_pure ?_)
      simp only [↓reduceIte]
      refine setX_tail ?_ ho hex hd g1 p1 nd1 hb1 hf1 hr1 hled ?_
      · intro b s₁ Q' q; cases b <;> first | exact wpAny_pure q | exact wpAny_rule q
      · intro h' sb r; dsimp only; exact wpAny_pure (hQ _ h' sb r)
end
/-! ### filling it from a list -/
def addAllX (L xs : List Str) : List Str := xs.foldl addX L
theorem addAllX_snoc (L xs : List Str) (x : Str) : addAllX L (xs ++ [x]) = addX (addAllX L xs) x := by
  unfold addAllX
  rw [List.foldl_append]
  rfl
theorem addX_len (L : List Str) (x : Str) : (addX L x).length ≤ L.length + 1 := by
  unfold addX
  split
  · omega
  · exact Nat.le_refl _
theorem addAllX_len (xs : List Str) : ∀ L : List Str, (addAllX L xs).length ≤ L.length + xs.length := by
  induction xs with
  | nil => exact fun L => Nat.le_refl _
  | cons x xs ih =>
    intro L
    have h1 := ih (addX L x)
    have h2 := addX_len L x
    show (addAllX (addX L x) xs).length ≤ L.length + (xs.length + 1)
    omega
theorem mem_addX {L : List Str} {x y : Str} : y ∈ addX L x ↔ y ∈ L ∨ y = x := by
  unfold addX
  split
  · rename_i h
    exact ⟨.inl, fun z => z.elim id fun e => e ▸ h⟩
  · rw [List.mem_cons]
    exact Or.comm
theorem mem_addAllX {xs : List Str} : ∀ {L : List Str} {y : Str}, y ∈ addAllX L xs ↔ y ∈ L ∨ y ∈ xs := by
  induction xs with
  | nil => exact fun {L y} => ⟨.inl, fun z => z.elim id fun h => nomatch h⟩
  | cons x xs ih =>
    intro L y
    show y ∈ addAllX (addX L x) xs ↔ _
    rw [ih, mem_addX, List.mem_cons, or_assoc]
theorem nodup_addX {L : List Str} {x : Str} (h : L.Nodup) : (addX L x).Nodup := by
  unfold addX
  split
  · exact h
  · rename_i hn
    exact List.nodup_cons.mpr ⟨hn, h⟩
theorem nodup_addAllX {xs : List Str} : ∀ {L : List Str}, L.Nodup → (addAllX L xs).Nodup := by
  induction xs with
  | nil => exact fun h => h
  | cons x xs ih => exact fun h => ih (nodup_addX h)
section
variable {P : Program} {w : World} {A : Around} {E : Value → Shared → Prop} {s : Shared}
theorem fill_texts {I : Addr} {fp wr : List Addr} {G : Array GenState → Array GenState → Prop} {n : Nat} {Pv : Nat → Value → Prop} {St : Nat → Shared → Prop} {R : Result → Shared → Prop}
    (W : WalksS P w A.in1 I fp wr G n Pv St) (S : Addr) (hSf : S ∉ fp) (xs : List Str) (hn : n = xs.length) (hfew : xs.length < 2000) (hval : ∀ i v, Pv i v → ∃ x t, xs[i]? = some x ∧ v = .str x t) :
    ∀ (k i : Nat) (s : Shared), n - i = k → i ≤ n → St i s → SetX w s.heap S (addAllX [] (xs.take i)) →
      (∀ s', Moved (S :: wr) G s s' → SetX w s'.heap S (addAllX [] xs) → R (.ok (.ret .none)) s') →
      codeAny (model P w) A (.builtin "set.update.loop" ⟨[.ref S, .ref I], []⟩) R s := by
  have hSw : S ∉ wr := fun h => hSf (W.sub _ h)
  have hsub : ∀ b ∈ wr, b ∈ S :: wr := fun b hb => List.mem_cons_of_mem _ hb
  intro k
  induction k with
  | zero =>
    intro i s hk' hi hst hS hR
    have hin : i = n := by omega
    refine codeAny_builtin F.entry_set_update_loop ?_
    rw [Around.under_plainId F.plain_set_update_loop _]
    show wpAny _ A.in1 (pyNext (.ref I) >>= _) _ _ s
    subst hin
    refine wpAny_bind (W.done s _ _ hst fun s' hm => ?_)
    show wpAny _ A.in1 (ret Value.none) _ _ s'
    refine wpAny_pure (hR s' (hm.mono hsub) ?_)
    rw [hn, List.take_length] at hS
    exact hS.at fun o e => hm.heap S o hSw e
  | succ k ih =>
    intro i s hk' hi hst hS hR
    have hlt : i < n := by omega
    refine codeAny_builtin F.entry_set_update_loop ?_
    rw [Around.under_plainId F.plain_set_update_loop _]
    show wpAny _ A.in1 (pyNext (.ref I) >>= _) _ _ s
    refine wpAny_bind (W.item i s _ _ hlt hst fun v s' hP hst' hm => ?_)
    obtain ⟨x, t, hx, rfl⟩ := hval i v hP
    have hS' : SetX w s'.heap S (addAllX [] (xs.take i)) := hS.at fun o e => hm.heap S o hSw e
    show wpAny _ A.in1 (holding [Value.str x t] (setAdd S (.str x t)) >>= _) _ _ s'
    refine wpAny_bind (wpAny_holding ?_)
    unfold setAdd
    refine wpAny_holding (wpAny_bind ((PySem.strKind P w).pyHash (k := x) (strKind_is _ _ _ _) ?_))
    have hroom : (addAllX [] (xs.take i)).length + 1 < scanBound := by
      have q := addAllX_len (xs.take i) []
      rw [List.length_take] at q
      unfold scanBound
      simp only [List.length_nil] at q
      omega
    refine setX_add (s := { s' with toks := s'.toks + 1 }) hS' hroom fun b h' hsb hS2 => ?_
    have htk : xs.take (i + 1) = xs.take i ++ [x] := by rw [List.take_add_one, hx]; rfl
    rw [← addAllX_snoc, ← htk] at hS2
    refine wpAny_pure ⟨plainId_quiet F.plain_set_update_loop _, ih (i + 1) _ (by omega) hlt (W.frame _ s' _ _ hst' (Nat.le_succ _) fun b hb o e => ?_) hS2 fun s'' hm'' hS'' => ?_⟩
    · rw [hsb.2 b (fun h : b = S => hSf (by rw [← h]; exact hb))]; exact e
    · refine hR s'' (Moved.trans W.gtrans ((hm.mono hsub).then_heap (Nat.le_succ _) fun b o hb e => ?_) hm'') hS''
      rw [hsb.2 b (fun h : b = S => hb (by rw [h]; exact List.mem_cons_self))]; exact e
/-- the empty set object -/
abbrev freshSet (w : World) : Obj := { cls := .type "set", dict := none, data := .set #[] 0 (.fresh 0 0 (!w.params.followText "set-order")) }
theorem setX_fresh {h : Heap} {a : Addr} (ho : h.get? a = some (freshSet w)) : SetX w h a [] :=
  ⟨_, #[], 0, _, ho, ⟨rfl, rfl, rfl⟩, rfl, (fun e he => by simp at he), .nil, List.nodup_nil, (by decide), (by rfl), List.Pairwise.nil, by
    show _ ∨ (!w.params.followText "set-order") = true
    cases w.params.followText "set-order"
    · exact .inr rfl
    · exact .inl rfl⟩
set_option maxHeartbeats 8000000 in
theorem set_of_texts {l : Addr} {items : Array Value} {xs : List Str} {Q : Value → Shared → Prop} (hh : A.handled = none) (hl : s.heap.IsList l items) (hi : StrsAre items.toList xs) (hfew : xs.length < 2000)
    (h : ∀ (h' : Heap) (tk : Nat), SetX w h' s.heap.objs.size (addAllX [] xs) → (∀ b o, s.heap.get? b = some o → h'.get? b = some o) → Q (.ref s.heap.objs.size) { s with heap := h', toks := tk }) :
    wpAny (model P w) A (call (.type "set") [.ref l]) Q E s := by
  have hisz : items.size = xs.length := by rw [← StrsAre.len_eq hi, Array.length_toList]
  obtain ⟨c, tl, hmro⟩ := F.called_set.mro
  have hmade := F.called_set.made
  have hsub := F.called_set.sub
  refine wpAny_call (codeAny_of_tree ?_)
  show wpAny _ _ (callAny (.type "set") _) _ _ _
  refine wpAny_pure ⟨Code.quiet_builtin _ (by decide +kernel), codeAny_builtin F.entry_type_call ?_⟩
  rw [Around.under_plain (weight_type_call_type "set" [.ref l] []) rfl]
  have h1 := F.called_set.notType
  have h2 := F.called_set.canCreate
  have hct := F.typeCall_set_1 (.ref l)
  repeat (any_goals (first | assumption | wp_step))
  refine codeAny_mono (code_set_led1 (.ref l) (E := E) (Q₁ := fun obj s₁ => obj = .ref s.heap.objs.size ∧ s₁ = { s with heap := s.heap.push (freshSet w) }) ⟨rfl, rfl⟩) fun r s₁ hr => ?_
  cases r with
  | error e => exact hr
  | ok fl =>
    cases fl with
    | ret obj =>
      obtain ⟨rfl, rfl⟩ := hr
      have hS : (s.heap.push (freshSet w)).get? s.heap.objs.size = some (freshSet w) := Heap.get?_push_size _ rfl
      have hT : Shared.TypeIs { s with heap := s.heap.push (freshSet w) } (.ref s.heap.objs.size) "set" := ⟨_, hS, rfl⟩
      have hli := F.called_set.init.lookup
      have hbi := F.called_set.init.bind (.ref s.heap.objs.size)
      repeat (any_goals (first | assumption | wp_step))
      refine codeAny_mono (codeAny_call_builtin (R := wants (fun r s₂ => r = .none ∧ ∃ h' tk, s₂ = { s with heap := h', toks := tk } ∧ SetX w h' s.heap.objs.size (addAllX [] xs) ∧
          (∀ b o, s.heap.get? b = some o → h'.get? b = some o)) E) F.called_set.init.plain F.entry_set_init (check_set_init_1 hT ?_)) fun r₂ s₂ hr₂ => ?_
      · obtain ⟨ol, hol, hcl, nl, hdl⟩ := hl
        obtain ⟨ocls, odict, odata, oslots⟩ := ol
        simp only at hcl hdl
        subst hcl; subst hdl
        have hol' : (s.heap.push (freshSet w)).get? l = some { cls := .type "list", dict := odict, data := .seq items nl, slots := oslots } := Heap.get?_push_of_some _ hol
        have hsls := F.sub_list_set
        have hslf := F.sub_list_frozenset
        have hne : (Value.type "list" == Value.type "dict") = false := by decide
        have hl1 : (s.heap.push (freshSet w)).IsList l items := ⟨_, hol', rfl, nl, rfl⟩
        unfold Builtin.«set.__init__» noKeywords Builtin.Frozenset.updateFrom
        generalize hPI : pyIter = PI
        wp_walk
        subst hPI
        refine wpAny_pyIter_list hl1 (wpAny_bind (wpAny_runValue ?_))
        have hlS : l < s.heap.objs.size := Heap.lt_size hol
        have hh3 : A.in1.in1.in1.handled = none := by simp [hh]
        have hz1 : (s.heap.push (freshSet w)).objs.size = s.heap.objs.size + 1 := Heap.size_push ..
        have hneI : l ≠ (s.heap.push (freshSet w)).objs.size := by
          rw [hz1]
          exact Nat.ne_of_lt (Nat.lt_succ_of_lt hlS)
        have hSf : s.heap.objs.size ∉ [(s.heap.push (freshSet w)).objs.size, l] := by
          rw [hz1]
          simp only [List.mem_cons, List.not_mem_nil, or_false, not_or]
          exact ⟨Nat.ne_of_lt (Nat.lt_succ_self _), Nat.ne_of_gt hlS⟩
        have hval : ∀ (i : Nat) (v : Value), items[i]? = some v → ∃ x t, xs[i]? = some x ∧ v = .str x t := fun i v hv => by
          have q : items.toList[i]? = some v := by rw [Array.getElem?_toList]; exact hv
          obtain ⟨t, e⟩ := SS.strs_at hi i v q
          have hi2 : i < xs.length := by
            have := (List.getElem?_eq_some_iff.mp q).1
            rw [Array.length_toList, hisz] at this
            exact this
          refine ⟨xs.getD i Str.empty, t, ?_, e⟩
          rw [List.getD_eq_getElem?_getD, List.getElem?_eq_getElem hi2]
          rfl
        refine fill_texts ((Walks.list hh3 _ l hneI items).toS) s.heap.objs.size hSf xs hisz hfew hval (items.size - 0) 0 _ (by omega) (Nat.zero_le _)
          ⟨⟨_, Heap.get?_push_size _ rfl, rfl, rfl⟩, (hl1.push _)⟩ ?hS0 ?hR
        case hS0 => exact setX_fresh (Heap.get?_push_of_some _ hS)
        case hR =>
          intro s' hm hS'
          obtain ⟨h', g2, d', tk', os'⟩ := s'
          have eg : g2 = s.gens := hm.gens
          have ed : d' = s.drawn := hm.drawn
          have eo : os' = s.os := hm.os
          subst eg; subst ed; subst eo
          show wpAny _ _ _ _ _ _
          refine wpAny_pure ?_
          show wpAny _ _ (ret Value.none) _ _ _
          refine wpAny_pure ⟨rfl, h', tk', rfl, hS', fun b o e => ?_⟩
          have hb := Heap.lt_size e
          exact hm.heap b o (by
            simp only [List.mem_cons, List.not_mem_nil, or_false, not_or, hz1]
            exact ⟨Nat.ne_of_lt hb, Nat.ne_of_lt (Nat.lt_succ_of_lt hb)⟩) (Heap.get?_push_of_some _ (Heap.get?_push_of_some _ e))
      · cases r₂ with
        | error e => exact hr₂
        | ok fl₂ =>
          cases fl₂ with
          | ret r =>
            obtain ⟨rfl, h', tk, rfl, hS', hk'⟩ := hr₂
            repeat (any_goals (first | assumption | wp_step))
            exact h _ _ hS' hk'
          | _ => exact hr₂.elim
    | _ => exact hr.elim
end
end
section
/-! LoRules: sorted of data of any length, set(texts), text * int, text += text. -/

def ipAddI : TIp := ipI fun i j => i + j
def ipSubI : TIp := ipI fun i j => i - j
def ipAddS : TIp := fun x y H Q => ∃ i j, x = V.str i ∧ y = V.str j ∧ i.length + j.length ≤ sizeLine ∧ Q (V.str (i ++ j)) H
theorem ip_addS {X : Cx} : PIp X .Add ipAddS := fun pins s σ H x y v u Q I rx ry h => iop_add_str pins s σ H x y v u Q I rx ry h
theorem p_ipAddI {H : Hp} {Q : VK} {i j : Int} (z : Q (V.int (i + j)) H) : ipAddI (V.int i) (V.int j) H Q := ⟨i, j, rfl, rfl, z⟩
theorem p_ipSubI {H : Hp} {Q : VK} {i j : Int} (z : Q (V.int (i - j)) H) : ipSubI (V.int i) (V.int j) H Q := ⟨i, j, rfl, rfl, z⟩
theorem p_ipAddS {H : Hp} {Q : VK} {a b : Str} (h : a.length + b.length ≤ sizeLine) (z : Q (V.str (a ++ b)) H) : ipAddS (V.str a) (V.str b) H Q := ⟨a, b, rfl, rfl, h, z⟩

/-! ### text * int -/
def repS (a : Str) (k : Nat) : Str := ⟨((List.replicate k a.cps.toList).flatten).toArray⟩
theorem fold_rep (c : Array Nat) : ∀ (k : Nat) (acc : Array Nat), (List.replicate k c).foldl (· ++ ·) acc = acc ++ ((List.replicate k c.toList).flatten).toArray
  | 0, acc => by simp
  | k + 1, acc => by
    rw [List.replicate_succ, List.foldl_cons, fold_rep c k, List.replicate_succ, List.flatten_cons, Array.append_assoc]
    congr 1
    simp
theorem repS_one (a : Str) : repS a 1 = a := by
  apply TL.ext_tl
  show (List.replicate 1 a.cps.toList).flatten = a.cps.toList
  simp
theorem repS_toList (a : Str) (k : Nat) : (repS a k).cps.toList = (List.replicate k a.cps.toList).flatten := rfl
theorem repS_len (a : Str) (k : Nat) : (repS a k).length = a.length * k := by
  show (((List.replicate k a.cps.toList).flatten).toArray).size = a.cps.size * k
  rw [List.size_toArray, List.length_flatten, List.map_replicate, List.sum_replicate_nat, Array.length_toList, Nat.mul_comm]
def rMulS : R2 := fun x y H Q => ∃ (a : Str) (n : Nat), x = V.str a ∧ y = V.int n ∧ n < 1000000 ∧ a.length * n ≤ 16777216 ∧ Q (V.str (repS a n)) H
theorem p_mulS {H : Hp} {Q : VK} {a : Str} {i : Int} (n : Nat) (h : i = (n : Int)) (h1 : n < 1000000) (h2 : a.length * n ≤ 16777216) (z : Q (V.str (repS a n)) H) : rMulS (V.str a) (V.int i) H Q := ⟨a, n, rfl, by rw [h], h1, h2, z⟩
theorem op_mulS {X : Cx} : OpR X (binaryOp .Mult) rMulS := by
  intro pins s σ H x y v u Q I rx ry h
  obtain ⟨a, n, rfl, rfl, hn, hl, q⟩ := h
  obtain ⟨t, rfl⟩ := rx
  obtain ⟨t', rfl⟩ := ry
  have hz : sizeLine = 16777216 := sizeLine_eq
  refine PySem.P.mul_str ?_ (fun h1 h2 => ?_) (fun h1 h2 => ?_) ?_
  · rw [decide_eq_false (by omega), decide_eq_false (by omega)]
    rfl
  · have hq : (16777216 : Int) ≤ (2 ^ 63 - 1) / (n : Int) := by
      rw [Int.le_ediv_iff_mul_le (by omega)]
      omega
    have ha : (a.length : Int) ≤ 16777216 := by
      have h3 : 1 ≤ n := by omega
      have h4 : a.length * 1 ≤ a.length * n := Nat.mul_le_mul_left _ h3
      omega
    omega
  · have h4 : a.length * n ≤ sizeLine := by omega
    rw [Int.toNat_natCast]
    unfold Builtin.Str.tooLong
    exact decide_eq_false (by omega)
  · by_cases h1 : (n : Int) < 1
    · rw [if_pos h1]
      have e0 : n = 0 := by omega
      subst e0
      have e : repS a 0 = Str.empty := rfl
      rw [e] at q
      exact ⟨by decide, V.str Str.empty, H, I.tok _, ⟨_, rfl⟩, q⟩
    · rw [if_neg h1]
      by_cases h2 : ((n : Int) == 1 || a.length == 0) = true
      · rw [if_pos h2]
        refine ⟨V.str (repS a n), H, I, ⟨t, ?_⟩, q⟩
        rcases Bool.or_eq_true_iff.mp h2 with h3 | h3
        · have e1 : n = 1 := by
            have := eq_of_beq h3
            omega
          rw [e1, repS_one]
        · have e1 : a.length = 0 := eq_of_beq h3
          have e2 : a.cps = #[] := Array.eq_empty_of_size_eq_zero e1
          have e3 : repS a n = a := by
            apply TL.ext_tl
            show (List.replicate n a.cps.toList).flatten = a.cps.toList
            rw [e2]
            simp
          rw [e3]
      · rw [if_neg h2]
        have e : (⟨(List.replicate (n : Int).toNat a.cps).foldl (· ++ ·) #[]⟩ : Str) = repS a n := by
          apply TL.ext_tl
          show ((List.replicate (n : Int).toNat a.cps).foldl (· ++ ·) #[]).toList = (List.replicate n a.cps.toList).flatten
          rw [fold_rep, Int.toNat_natCast]
          simp
        rw [e]
        refine ⟨?_, V.str (repS a n), H, I.tok _, ⟨_, rfl⟩, q⟩
        have h4 : (repS a n).length ≤ sizeLine := by rw [repS_len]; omega
        exact h4

/-! ### sorted -/
theorem each_vals {β : Type} {f : β → V} : ∀ {bs : List β} {us : List Value}, Vals (bs.map f) us → PySem.W.EachIs (fun v b => RelV (f b) v) us bs
  | [], _, .nil => .nil
  | _ :: _, _, .cons r t => .cons r (each_vals t)
theorem vals_each {β : Type} {f : β → V} : ∀ {bs : List β} {us : List Value}, PySem.W.EachIs (fun v b => RelV (f b) v) us bs → Vals (bs.map f) us
  | [], _, .nil => .nil
  | _ :: _, _, .cons r t => .cons r (vals_each t)
theorem each_of {β : Type} {R R' : Value → β → Prop} : ∀ {bs : List β} {us : List Value}, PySem.W.EachIs R us bs → (∀ v b, b ∈ bs → R v b → R' v b) → PySem.W.EachIs R' us bs
  | _, _, .nil, _ => .nil
  | _, _, .cons r t, f => .cons (f _ _ List.mem_cons_self r) (each_of t fun v b hb => f v b (List.mem_cons_of_mem _ hb))
/-- items b of a type of one's own: f b the value, enc b the data it reads as -/
def rSortedD (K : PySem.W.Frag) (β : Type) (f : β → V) (enc : β → PyData) : List V → Hp → VK → Prop := fun vs H Q => ∃ (a : Addr) (bs : List β), vs = [V.ref a] ∧ SqL K H a (bs.map f) ∧ (∀ b ∈ bs, Dp K H (f b) (enc b)) ∧
  PySem.W.AllAlike (bs.map enc) ∧ PySem.W.Sortable (bs.map enc) ∧ (∀ b ∈ bs, (enc b).depth ≤ 60) ∧ ∀ p, H p = none → Q (.ref p) (upd H p (.lst ((bs.mergeSort (PySem.W.dataLe false enc)).map f)))
theorem cr_sortedD {X : Cx} {β : Type} {f : β → V} {enc : β → PyData} (hu : X.A.units + 64 < cLine) : CallR X (.builtin "sorted") (rSortedD X.K β f enc) := by
  intro pins s σ H vs us Q I r h
  obtain ⟨a, bs, rfl, hs, hd, hal, hk, hdep, q⟩ := h
  obtain ⟨its, rv, hl, hz⟩ := I.list hs
  rw [Vals.ref1 r]
  have e := each_vals rv
  have er : PySem.W.EachIs (fun v b => ∃ as, Reads s.heap v (enc b) as) its bs := each_of e fun v b hb hr => Dp.reads I (enc b) (f b) v (hd b hb) hr
  rw [List.length_map] at hz
  refine PySem.W.sorted_data hl.isList e er hal hk hz (fun b hb => ?_) fun out hlen hout => ?_
  · have := hdep b hb
    omega
  · obtain ⟨ep, he'⟩ := PyProof.Rows.sortedAll_at s.heap its out.toArray
    have hl2 : ((bs.mergeSort (PySem.W.dataLe false enc)).map f).length ≤ sizeLine := by
      rw [List.length_map, List.length_mergeSort]
      exact hz
    exact ⟨.ref _, upd H (s.heap.objs.size + 1) (.lst ((bs.mergeSort (PySem.W.dataLe false enc)).map f)), I.laid (t' := s.toks) (fun _ _ => PyProof.Rows.sortedAll_old) (Nat.le_succ _) ⟨hl2, out, ep, vals_each hout, he'⟩, rfl, q _ (I.hok.fresh (Nat.le_succ _))⟩
/-! texts -/
def leS (a b : Str) : Bool := decide (a.cps.toList ≤ b.cps.toList)
def rSortedStr (K : PySem.W.Frag) : List V → Hp → VK → Prop := fun vs H Q => ∃ (a : Addr) (xs : List Str), vs = [V.ref a] ∧ SqL K H a (xs.map V.str) ∧ ∀ p, H p = none → Q (.ref p) (upd H p (.lst ((xs.mergeSort leS).map V.str)))
theorem str_alike (xs : List Str) : PySem.W.AllAlike (xs.map PyData.str) := PySem.W.AllAlike.of fun b b' => by simp [PySem.W.alike]
theorem str_sortable (xs : List Str) : PySem.W.Sortable (xs.map PyData.str) := PySem.W.Sortable.others fun b => ⟨by simp, by simp⟩
theorem leS_eq : PySem.W.dataLe false PyData.str = leS := PySem.W.dataLe_str id
theorem cr_sortedStr {X : Cx} (hu : X.A.units + 64 < cLine) : CallR X (.builtin "sorted") (rSortedStr X.K) := by
  intro pins s σ H vs us Q I r h
  obtain ⟨a, xs, rfl, hs, q⟩ := h
  refine cr_sortedD (β := Str) (f := V.str) (enc := PyData.str) hu pins s σ H _ us Q I r ⟨a, xs, rfl, hs, fun b _ => .str b, str_alike xs, str_sortable xs, fun b _ => by simp [PyData.depth], fun p hp => ?_⟩
  rw [leS_eq]
  exact q p hp
theorem leS_trans {a b c : Str} (h1 : leS a b = true) (h2 : leS b c = true) : leS a c = true :=
  decide_eq_true (List.le_trans (of_decide_eq_true h1) (of_decide_eq_true h2))
theorem leS_total (a b : Str) : (leS a b || leS b a) = true := by
  rcases List.le_total a.cps.toList b.cps.toList with h | h
  · rw [show leS a b = true from decide_eq_true h]; rfl
  · rw [show leS b a = true from decide_eq_true h]; simp
theorem leS_antisymm {a b : Str} (h1 : leS a b = true) (h2 : leS b a = true) : a = b :=
  TL.ext_tl (List.le_antisymm (of_decide_eq_true h1) (of_decide_eq_true h2))
theorem sort_perm {xs ys : List Str} (h : xs.Perm ys) : xs.mergeSort leS = ys.mergeSort leS :=
  List.Perm.eq_of_pairwise (le := fun a b => leS a b = true) (fun a b _ _ => leS_antisymm) (List.pairwise_mergeSort (le := leS) (fun _ _ _ => leS_trans) leS_total xs) (List.pairwise_mergeSort (le := leS) (fun _ _ _ => leS_trans) leS_total ys)
    ((List.mergeSort_perm xs leS).trans (h.trans (List.mergeSort_perm ys leS).symm))
/-! ### set(texts), sorted(set) -/
def SetXO (w : World) (a : Addr) (L : List Str) : HO := .ext fun h => SetX w h a L
def rSetOfS (K : PySem.W.Frag) (w : World) : List V → Hp → VK → Prop := fun vs H Q => ∃ (a : Addr) (xs : List Str), vs = [V.ref a] ∧ SqL K H a (xs.map V.str) ∧ xs.length < 2000 ∧ ∀ p, H p = none → Q (.ref p) (upd H p (SetXO w p (addAllX [] xs)))
theorem setXO_new {w : World} {P : Program} {H : Hp} {h : Heap} {a : Addr} {L : List Str} (R : SetX w h a L) : ObjOk P w H h a (SetXO w a L) := ⟨R, R.len, fun _ _ p k => SetX.at p k⟩
theorem cr_setOfS {X : Cx} (hc : X.calm = true) : CallR X (.type "set") (rSetOfS X.K X.w) := by
  intro pins s σ H vs us Q I r h
  obtain ⟨a, xs, rfl, hs, hfew, q⟩ := h
  obtain ⟨its, rv, hl, hz⟩ := I.list hs
  rw [Vals.ref1 r]
  refine set_of_texts (I.ok.hd hc) hl.isList (by simpa using rv.strs) hfew fun h' tk R k => ?_
  exact ⟨.ref _, upd H s.heap.objs.size (SetXO X.w s.heap.objs.size (addAllX [] xs)), I.laid (t' := tk) k (Nat.le_refl _) (setXO_new R), rfl, q _ (I.hok.fresh (Nat.le_refl _))⟩
def rSortedSetS (w : World) : List V → Hp → VK → Prop := fun vs H Q => ∃ (a : Addr) (L : List Str), vs = [V.ref a] ∧ H a = some (SetXO w a L) ∧ ∀ p, H p = none → Q (.ref p) (upd H p (.lst ((L.mergeSort leS).map V.str)))
theorem strs_of_set {w : World} : ∀ (vs : List Value), (∀ v ∈ vs, ∃ x tk, v = Value.str x tk) → PySem.W.EachIs (fun v b => RelV (V.str b) v) vs (vs.map fun v => sKey (0, v))
  | [], _ => .nil
  | v :: vs, h => by
    obtain ⟨x, tk, rfl⟩ := h v List.mem_cons_self
    exact .cons ⟨tk, rfl⟩ (strs_of_set (w := w) vs fun u hu => h u (List.mem_cons_of_mem _ hu))
theorem sorted_setX {P : Program} {w : World} {A : Around} {E : Value → Shared → Prop} {s : Shared} {a : Addr} {L : List Str} {Q : Value → Shared → Prop} (R : SetX w s.heap a L) (hh : A.handled = none) (hu : A.units + 64 < cLine)
    (hQ : ∀ s' p (out : List Value) (c : Nat), (∀ b o, s.heap.get? b = some o → s'.heap.get? b = some o) → s'.gens = s.gens → s'.os = s.os → s.heap.objs.size ≤ p → s'.heap.get? p = some (seqObj "list" out.toArray c) →
      PySem.W.EachIs (fun v b => RelV (V.str b) v) out (L.mergeSort leS) → Q (.ref p) s') :
    wpAny (model P w) A (call (.builtin "sorted") [.ref a]) Q E s := by
  obtain ⟨o, es, ep, t, ho, hex, hd, g, pL, nd, hb, hf, hr, hl⟩ := R
  refine Calls.call_function_entry kind_sorted plain_sorted entry_sorted (args_sorted1 _) ?_
  unfold Builtin.«sorted»
  refine wpAny_bind (m := checkCount "sorted" 1 1 _) (wpAny_pure (wpAny_bind (collect_set (A := A.in1) hh ⟨o, ho, hex.1, hd⟩ hf hb hr hl fun s1 vs k1 hz g1 o1 pm => ?_)))
  have hvl : vs.length < scanBound := by
    rw [pm.length_eq, List.length_map, Array.length_toList]
    exact hb
  have hv : ∀ v ∈ vs, ∃ x tk, v = Value.str x tk := fun v hv => by
    obtain ⟨e, he, q⟩ := List.mem_map.mp (pm.mem_iff.mp hv)
    obtain ⟨x, tk, h1, _⟩ := g e he
    exact ⟨x, tk, by rw [← q]; exact h1⟩
  have hE := strs_of_set (w := w) vs hv
  have pk : (vs.map fun v => sKey (0, v)).Perm L := by
    have q := pm.map fun v => sKey (0, v)
    rw [List.map_map] at q
    exact q.trans pL
  have hline : vs.length ≤ sizeLine := by
    rw [sizeLine_eq]
    unfold scanBound at hvl
    omega
  refine wpAny_bind (wpAny_newList ?_ hline)
  have hoL : (s1.heap.push (seqObj "list" vs.toArray 0)).get? s1.heap.objs.size = some (seqObj "list" vs.toArray 0) := Heap.get?_push_size _ rfl
  have hu2 : A.in1.units = A.units + 1 ∨ A.in1.units ≤ A.units + 1 := by
    first
      | exact .inl rfl
      | exact .inr (Nat.le_refl _)
      | exact .inr (by simp [Around.in1, Around.units])
  refine wpAny_bind (wpAny_holding (PySem.W.list_sort_data (enc := PyData.str) hoL hE (each_of hE fun v b _ hr => ?_) (str_alike _) (str_sortable _) (by rw [List.length_map]; exact hline) (fun b _ => ?_) fun out h1 h2 => ?_))
  · obtain ⟨tk, rfl⟩ := hr
    exact ⟨[], .str b tk, by simp⟩
  · have hdep : (PyData.str b).depth = 0 := by simp [PyData.depth]
    rw [hdep]
    rcases hu2 with h | h <;> omega
  · obtain ⟨c, hc⟩ := sortedHeap_at (vs := vs) (out := out.toArray) hoL
    rw [leS_eq, sort_perm pk] at h2
    refine wpAny_pure ⟨_, rfl, hQ _ s1.heap.objs.size out c (fun b u e => ?_) g1 o1 hz hc h2⟩
    have q := k1 b u e
    have hlt := Heap.lt_size q
    show (sortedHeap (s1.heap.push (seqObj "list" vs.toArray 0)) s1.heap.objs.size vs out.toArray).get? b = some u
    rw [sortedHeap_old (Nat.ne_of_lt hlt) (by rw [Heap.size_push]; exact Nat.lt_succ_of_lt hlt)]
    exact Heap.get?_push_of_some _ q
theorem cr_sortedSetS {X : Cx} (hc : X.calm = true) (hu : X.A.units + 64 < cLine) : CallR X (.builtin "sorted") (rSortedSetS X.w) := by
  intro pins s σ H vs us Q I r h
  obtain ⟨a, L, rfl, ha, q⟩ := h
  rw [Vals.ref1 r]
  have R : SetX X.w s.heap a L := (I.hok a _ ha).1
  have hlen : L.length ≤ sizeLine := by
    obtain ⟨o, es, ep, t, ho, hex, hd, g, pL, nd, hb, _⟩ := R
    have q := pL.length_eq
    rw [List.length_map, Array.length_toList] at q
    unfold scanBound at hb
    rw [sizeLine_eq]
    omega
  refine sorted_setX R (I.ok.hd hc) hu fun s' p out c k1 g1 o1 hp hob hE => ?_
  have hl2 : ((L.mergeSort leS).map V.str).length ≤ sizeLine := by
    rw [List.length_map, List.length_mergeSort]
    exact hlen
  have hn : H p = none := I.hok.fresh hp
  have J : Inv X pins σ (upd H p (.lst ((L.mergeSort leS).map V.str))) { s with heap := s'.heap, gens := s'.gens, drawn := s'.drawn, toks := s'.toks } :=
    I.call (ch := []) (Un.laid k1 hp hn) (I.hok.laid k1 hp ⟨hl2, out, c, vals_each hE, hob⟩) (by rw [g1]; exact I.bare) (fun _ z => nomatch z)
  have e : s' = { s with heap := s'.heap, gens := s'.gens, drawn := s'.drawn, toks := s'.toks } := by
    cases s'
    cases s
    cases o1
    rfl
  rw [e]
  exact ⟨.ref p, _, J, rfl, q p hn⟩
end
section
/-! K57m: the words of a text, two ways. -/

abbrev S (l : List Nat) : Str := ⟨l.toArray⟩
theorem S_inj {a b : List Nat} (h : S a = S b) : a = b := congrArg (fun x : Str => x.cps.toList) h
theorem S_len (a : List Nat) : (S a).length = a.length := by simp [S, Str.length]
theorem S_tl (x : Str) : S x.cps.toList = x := TL.mk_tl x
theorem len_cps (x : Str) : x.length = x.cps.toList.length := by simp [Str.length]
theorem S_app (a b : List Nat) : S a ++ S b = S (a ++ b) := TL.ext_tl (TL.tl_append (S a) (S b))
/-- a small letter or a digit -/
def isW (c : Nat) : Prop := (97 ≤ c ∧ c ≤ 122) ∨ (48 ≤ c ∧ c ≤ 57)
instance (c : Nat) : Decidable (isW c) := by unfold isW; infer_instance
/-- the first way: sign by sign -/
def wstep (st : List (List Nat) × List Nat) (c : Nat) : List (List Nat) × List Nat :=
  if isW c then (st.1, st.2 ++ [c]) else if st.2 ≠ [] then (st.1 ++ [st.2], []) else st
/-- the second way: by places; low the text in small letters -/
def dstep (low : List Nat) (st : List (List Nat) × Nat) (i : Nat) : List (List Nat) × Nat :=
  if i < low.length ∧ isW (low.getD i 0) then st
  else (if st.2 < i ∧ (low.take i).drop st.2 ∉ st.1 then st.1 ++ [(low.take i).drop st.2] else st.1, i + 1)
def wsOf (low : List Nat) : List (List Nat) := ((low ++ [32]).foldl wstep ([], [])).1
def dsOf (low : List Nat) : List (List Nat) := ((List.range (low.length + 1)).foldl (dstep low) ([], 0)).1
/-- both ways so far -/
structure Two (low : List Nat) (i : Nat) (f : List (List Nat) × List Nat) (g : List (List Nat) × Nat) : Prop where
  le : g.2 ≤ i
  word : f.2 = (low.take i).drop g.2
  mem : ∀ x, x ∈ g.1 ↔ x ∈ f.1
  nd : g.1.Nodup
theorem take_succ' (low : List Nat) {i : Nat} (h : i < low.length) : low.take (i + 1) = low.take i ++ [low.getD i 0] := by
  rw [List.take_add_one, List.getElem?_eq_getElem h, List.getD_eq_getElem?_getD, List.getElem?_eq_getElem h]
  rfl
theorem drop_nil_iff {low : List Nat} {i s : Nat} (hi : i ≤ low.length) (hs : s ≤ i) : (low.take i).drop s = [] ↔ ¬ s < i := by
  rw [List.drop_eq_nil_iff, List.length_take]
  omega
/-- a sign that is none of a word ends the word, in both ways -/
theorem two_end {low : List Nat} {i : Nat} {f : List (List Nat) × List Nat} {g : List (List Nat) × Nat} (hi : i ≤ low.length) (t : Two low i f g) :
    (∀ x, x ∈ (if g.2 < i ∧ (low.take i).drop g.2 ∉ g.1 then g.1 ++ [(low.take i).drop g.2] else g.1) ↔ x ∈ (if f.2 ≠ [] then (f.1 ++ [f.2], ([] : List Nat)) else f).1) ∧
    (if g.2 < i ∧ (low.take i).drop g.2 ∉ g.1 then g.1 ++ [(low.take i).drop g.2] else g.1).Nodup ∧ (if f.2 ≠ [] then (f.1 ++ [f.2], ([] : List Nat)) else f).2 = [] := by
  obtain ⟨le, word, mem, nd⟩ := t
  by_cases h : g.2 < i
  · have hne : f.2 ≠ [] := by
      rw [word]
      exact fun z => (drop_nil_iff hi le).mp z h
    rw [if_pos hne]
    by_cases hm : (low.take i).drop g.2 ∉ g.1
    · rw [if_pos ⟨h, hm⟩]
      refine ⟨fun x => ?_, ?_, rfl⟩
      · rw [List.mem_append, List.mem_append, mem, word]
      · rw [List.nodup_append]
        refine ⟨nd, by simp, fun a ha b hb => ?_⟩
        rw [List.mem_singleton] at hb
        rintro rfl
        exact hm (hb ▸ ha)
    · rw [if_neg fun z => hm z.2]
      have hm' : (low.take i).drop g.2 ∈ g.1 := Classical.not_not.mp hm
      refine ⟨fun x => ?_, nd, rfl⟩
      rw [List.mem_append, mem]
      refine ⟨.inl, fun z => z.elim id fun z => ?_⟩
      rw [List.mem_singleton] at z
      rw [z, word]
      exact (mem _).mp hm'
  · have hw : f.2 = [] := by
      rw [word]
      exact (drop_nil_iff hi le).mpr h
    rw [if_neg fun z => h z.1, if_neg (fun z => z hw)]
    exact ⟨mem, nd, hw⟩
theorem dstep_yes {low : List Nat} {st : List (List Nat) × Nat} {i : Nat} (h : i < low.length ∧ isW (low.getD i 0)) : dstep low st i = st := if_pos h
theorem dstep_no {low : List Nat} {st : List (List Nat) × Nat} {i : Nat} (h : ¬ (i < low.length ∧ isW (low.getD i 0))) :
    dstep low st i = (if st.2 < i ∧ (low.take i).drop st.2 ∉ st.1 then st.1 ++ [(low.take i).drop st.2] else st.1, i + 1) := if_neg h
theorem wstep_yes {st : List (List Nat) × List Nat} {c : Nat} (h : isW c) : wstep st c = (st.1, st.2 ++ [c]) := if_pos h
theorem wstep_no {st : List (List Nat) × List Nat} {c : Nat} (h : ¬ isW c) : wstep st c = if st.2 ≠ [] then (st.1 ++ [st.2], []) else st := if_neg h
theorem two_step {low : List Nat} {i : Nat} {f : List (List Nat) × List Nat} {g : List (List Nat) × Nat} (hi : i < low.length) (t : Two low i f g) : Two low (i + 1) (wstep f (low.getD i 0)) (dstep low g i) := by
  by_cases hw : isW (low.getD i 0)
  · rw [wstep_yes hw, dstep_yes ⟨hi, hw⟩]
    refine ⟨Nat.le_succ_of_le t.le, ?_, t.mem, t.nd⟩
    have e := take_succ' low hi
    have hl : g.2 ≤ (low.take i).length := by
      rw [List.length_take]
      have := t.le
      omega
    rw [e, List.drop_append_of_le_length hl, ← t.word]
  · rw [wstep_no hw, dstep_no fun z => hw z.2]
    obtain ⟨h1, h2, h3⟩ := two_end (Nat.le_of_lt hi) t
    refine ⟨Nat.le_refl _, ?_, h1, h2⟩
    show _ = (low.take (i + 1)).drop (i + 1)
    rw [h3, List.drop_eq_nil_of_le]
    rw [List.length_take]
    omega
theorem two_all (low : List Nat) : ∀ i, i ≤ low.length → Two low i ((low.take i).foldl wstep ([], [])) ((List.range i).foldl (dstep low) ([], 0))
  | 0, _ => ⟨Nat.le_refl _, by simp, fun x => Iff.rfl, List.nodup_nil⟩
  | i + 1, h => by
    rw [take_succ' low h, List.foldl_append, List.range_succ, List.foldl_append]
    exact two_step h (two_all low i (Nat.le_of_succ_le h))
theorem two_ways (low : List Nat) : (∀ x, x ∈ dsOf low ↔ x ∈ wsOf low) ∧ (dsOf low).Nodup := by
  have t := two_all low low.length (Nat.le_refl _)
  rw [List.take_length] at t
  obtain ⟨h1, h2, _⟩ := two_end (Nat.le_refl _) t
  have e1 : dsOf low = (dstep low ((List.range low.length).foldl (dstep low) ([], 0)) low.length).1 := by
    unfold dsOf
    rw [List.range_succ, List.foldl_append]
    rfl
  have e2 : wsOf low = (wstep (low.foldl wstep ([], [])) 32).1 := by
    unfold wsOf
    rw [List.foldl_append]
    rfl
  rw [dstep_no fun z => absurd z.1 (Nat.lt_irrefl _)] at e1
  rw [wstep_no (by decide)] at e2
  rw [e1, e2]
  exact ⟨h1, h2⟩
def wordsOf (low : List Nat) : List Str := (addAllX [] ((wsOf low).map S)).mergeSort leS
def duesOf (low : List Nat) : List Str := ((dsOf low).map S).mergeSort leS
theorem words_due (low : List Nat) : wordsOf low = duesOf low := by
  obtain ⟨h1, h2⟩ := two_ways low
  refine sort_perm ((List.perm_ext_iff_of_nodup (nodup_addAllX List.nodup_nil) ?_).mpr fun x => ?_)
  · exact List.Pairwise.map _ (fun a b hab e => hab (S_inj e)) h2
  · rw [mem_addAllX, List.mem_map, List.mem_map]
    constructor
    · rintro (h | ⟨y, hy, e⟩)
      · cases h
      · exact ⟨y, (h1 y).mpr hy, e⟩
    · rintro ⟨y, hy, e⟩
      exact .inr ⟨y, (h1 y).mp hy, e⟩
theorem words_empty : wordsOf [] = [] := by
  have e : addAllX [] ((wsOf []).map S) = [] := by decide
  unfold wordsOf
  rw [e]
  simp
theorem words_Aa : wordsOf [97, 45, 97] = [S [97]] := by
  have e : addAllX [] ((wsOf [97, 45, 97]).map S) = [S [97]] := by decide +kernel
  unfold wordsOf
  rw [e]
  simp
theorem wstep_len (st : List (List Nat) × List Nat) (c : Nat) : (wstep st c).1.length ≤ st.1.length + 1 ∧ (wstep st c).2.length ≤ st.2.length + 1 := by
  unfold wstep
  split
  · exact ⟨Nat.le_succ _, by simp⟩
  · split
    · exact ⟨by simp, Nat.zero_le _⟩
    · exact ⟨Nat.le_succ _, Nat.le_succ _⟩
theorem wfold_len (l : List Nat) : ∀ st : List (List Nat) × List Nat, (l.foldl wstep st).1.length ≤ st.1.length + l.length ∧ (l.foldl wstep st).2.length ≤ st.2.length + l.length := by
  induction l with
  | nil => exact fun st => ⟨Nat.le_refl _, Nat.le_refl _⟩
  | cons c l ih =>
    intro st
    have h1 := ih (wstep st c)
    have h2 := wstep_len st c
    show ((l.foldl wstep (wstep st c)).1.length ≤ st.1.length + (l.length + 1)) ∧ ((l.foldl wstep (wstep st c)).2.length ≤ st.2.length + (l.length + 1))
    omega
theorem dfold_len (low : List Nat) : ∀ i : Nat, ((List.range i).foldl (dstep low) ([], 0)).1.length ≤ i ∧ ((List.range i).foldl (dstep low) ([], 0)).2 ≤ i
  | 0 => ⟨Nat.le_refl _, Nat.le_refl _⟩
  | i + 1 => by
    rw [List.range_succ, List.foldl_append]
    have h := dfold_len low i
    show (dstep low ((List.range i).foldl (dstep low) ([], 0)) i).1.length ≤ i + 1 ∧ (dstep low ((List.range i).foldl (dstep low) ([], 0)) i).2 ≤ i + 1
    generalize (List.range i).foldl (dstep low) ([], 0) = st at h ⊢
    by_cases hc : i < low.length ∧ isW (low.getD i 0)
    · rw [dstep_yes hc]
      omega
    · rw [dstep_no hc]
      refine ⟨?_, Nat.le_refl _⟩
      dsimp only
      split
      · simp only [List.length_append, List.length_singleton]
        omega
      · omega
end
section
/-! K57s: promises. -/
/-- all but the list at a stays -/
def But (a : Addr) (H H' : Hp) : Prop := ∀ b o, H b = some o → b ≠ a → H' b = some o
theorem But.refl (a : Addr) (H : Hp) : But a H H := fun _ _ h _ => h
theorem But.trans {a : Addr} {H H1 H2 : Hp} (x : But a H H1) (y : But a H1 H2) : But a H H2 := fun b o h n => y b o (x b o h n) n
theorem But.upd {a : Addr} {H : Hp} {o : HO} : But a H (upd H a o) := fun b u h n => by rw [upd_ne n]; exact h
theorem But.new {a p : Addr} {H H' : Hp} {o : HO} (x : But a H H') (hp : H' p = none) : But a H (L2.upd H' p o) := fun b u h n => by
  rw [upd_ne (ne_of_none (x b u h n) hp)]
  exact x b u h n
/-- a stream of draws stands at a -/
def Strm (H : Hp) (a : Addr) : Prop := ∃ d s : Int, H a = some (HO.lst [V.int d, V.int s])
def sp__law_stream (G : Gv) : Sp := fun vs H Q _ => ∃ c k : Int, vs = [V.int c, V.int k] ∧ ∀ p d s, H p = none → Q (V.ref p) (upd H p (HO.lst [V.int d, V.int s]))
def sp__law_next (G : Gv) : Sp := fun vs H Q _ => ∃ (a : Addr) (d s z : Int), vs = [V.ref a, V.int z] ∧ H a = some (HO.lst [V.int d, V.int s]) ∧ 0 < z ∧ z < 2 ^ 63 ∧
  ∀ d' s' r : Int, 0 ≤ r → r < z → Q (V.int r) (upd H a (HO.lst [V.int d', V.int s']))
def Ascii (z : Str) : Prop := ∀ c ∈ z.cps.toList, c < 128
def sp__law_word (G : Gv) : Sp := fun vs H Q _ => ∃ a, vs = [V.ref a] ∧ Strm H a ∧ ∀ z d s, z.length ≤ 4 → Ascii z → Q (V.str z) (upd H a (HO.lst [V.int d, V.int s]))
def sp__law_any (G : Gv) : Sp := fun vs H Q _ => ∃ a, vs = [V.ref a] ∧ Strm H a ∧ ∀ z H', z.length ≤ 400 → Ascii z → But a H H' → Strm H' a → Q (V.str z) H'
def sp__law_text (G : Gv) : Sp := fun vs H Q _ => ∃ (a l : Addr) (xs : List Str), vs = [V.ref l, V.ref a] ∧ Strm H a ∧ H l = some (HO.lst (xs.map V.str)) ∧ 0 < xs.length ∧ xs.length < 100 ∧ (∀ x ∈ xs, x.length ≤ 20 ∧ Ascii x) ∧
  ∀ z H', z.length ≤ 400 → Ascii z → But a H H' → Strm H' a → Q (V.str z) H'
def lows (z : Str) : List Nat := z.cps.toList.map lo1
def sp_words_of (G : Gv) : Sp := fun vs H Q _ => ∃ z, vs = [V.str z] ∧ z.length ≤ 400 ∧ Ascii z ∧ ∀ p H', H p = none → (∀ b o, H b = some o → H' b = some o) → H' p = some (HO.lst ((wordsOf (lows z)).map V.str)) → Q (V.ref p) H'
def sp__law_due (G : Gv) : Sp := fun vs H Q _ => ∃ z, vs = [V.str z] ∧ z.length ≤ 400 ∧ Ascii z ∧ ∀ p H', H p = none → (∀ b o, H b = some o → H' b = some o) → H' p = some (HO.lst ((duesOf (lows z)).map V.str)) → Q (V.ref p) H'
def sp_law (G : Gv) : Sp := fun vs H Q _ => ∃ (a : Addr) (ns : List Int), vs = [V.ref a] ∧ SqL G.K H a (ns.map V.int) ∧ ns.length ≤ 63 ∧ ∀ H', Q (V.bl true) H'
end
section
/-! K57r: readings, printed by gen.py. -/
def N_words_of : List Str := ["text", "words", "word", "char"]
def t_words_of (G : Gv) : TS :=
  (tSeq (tAsg (tLst tNil) (gName 1))
    (tSeq (tAsg (tC (.str "")) (gName 2))
    (tSeq (tFor (iStr (tOp rAddS (tBM0 G.K "str" rLower (tVar 0)) (tC (.str " ")))) (gName 3) (tIfS (tOr (tTest (tOp rInS (tVar 3) (tC (.str "abcdefghijklmnopqrstuvwxyz")))) (tTest (tOp rInS (tVar 3) (tC (.str "0123456789"))))) (tAug 2 (tVar 3) ipAddS) (tIfS (tTru G.K (tVar 2)) (tSeq (tDrop (tBM G.K "list" rAppend (tVar 1) (tCons (tVar 2) tNil)))
    (tAsg (tC (.str "")) (gName 2))) tNext)))
    (tRet (tCB (rSortedSetS G.w) (tCons (tCB (rSetOfS G.K G.w) (tCons (tVar 1) tNil)) tNil))))))
def N__law_stream : List Str := ["_law_cell", "_law_k", "_law_digits"]
def t__law_stream (G : Gv) : TS :=
  (tSeq (tAsg (tC (.int 0)) (gName 2))
    (tMid (tIfS (tTest (tOp rGeI (tVar 0) (tOp rPowI (tC (.int 10)) (tC (.int 18))))) (tAsg (tVar 0) (gName 2)) tNext)
    (tRet (tLst (tCons (tVar 2) (tCons (tOp rModI (tCB rInt1 (tCons (tOp rAddI (tOp rAddI (tOp rMulI (tVar 0) (tC (.int 48271))) (tOp rMulI (tVar 1) (tC (.int 69621)))) (tC (.int 77))) tNil)) (tC (.int 2147483647))) tNil))))))
def N__law_next : List Str := ["_law_stream_here", "_law_size", "_law_drawn"]
def t__law_next (G : Gv) : TS :=
  (tSeq (tIfS (tTest (tOp rGtI (tOp (rIxL G.K) (tVar 0) (tC (.int 0))) (tC (.int 0)))) (tSeq (tAsg (tOp rModI (tCB rInt1 (tCons (tOp (rIxL G.K) (tVar 0) (tC (.int 0))) tNil)) (tVar 1)) (gName 2))
    (tSeq (tAsg (tOp rDivI (tOp (rIxL G.K) (tVar 0) (tC (.int 0))) (tVar 1)) (gSub (tVar 0) (tC (.int 0)) rSetL))
    (tRet (tVar 2)))) tNext)
    (tSeq (tAsg (tOp rModI (tCB rInt1 (tCons (tOp rAddI (tOp rMulI (tOp (rIxL G.K) (tVar 0) (tC (.int 1))) (tC (.int 48271))) (tC (.int 12820163))) tNil)) (tC (.int 2147483647))) (gSub (tVar 0) (tC (.int 1)) rSetL))
    (tRet (tOp rModI (tCB rInt1 (tCons (tOp rDivI (tOp rModI (tCB rInt1 (tCons (tOp rAddI (tOp rMulI (tOp (rIxL G.K) (tVar 0) (tC (.int 1))) (tC (.int 16807))) (tC (.int 5))) tNil)) (tC (.int 2147483399))) (tC (.int 3))) tNil)) (tVar 1)))))
def N__law_due : List Str := ["_law_text_here", "_law_words", "_law_start", "_law_small", "_law_large", "_law_end"]
def t__law_due (G : Gv) : TS :=
  (tSeq (tAsg (tLst tNil) (gName 1))
    (tSeq (tAsg (tC (.int 0)) (gName 2))
    (tSeq (tAsg (tC (.str "abcdefghijklmnopqrstuvwxyz0123456789")) (gName 3))
    (tSeq (tAsg (tC (.str "ABCDEFGHIJKLMNOPQRSTUVWXYZ")) (gName 4))
    (tSeq (tFor (iRng1 (tCons (tOp rAddI (tCB (rLen G.K) (tCons (tVar 0) tNil)) (tC (.int 1))) tNil)) (gName 5) (tIfS (tOr (tTest (tOp rEq (tVar 5) (tCB (rLen G.K) (tCons (tVar 0) tNil)))) (tTest (tOp rNotInS (tOp rIxS (tVar 0) (tVar 5)) (tOp rAddS (tVar 3) (tVar 4))))) (tMid (tIfS (tAnd (tTest (tOp rGtI (tVar 5) (tVar 2))) (tTest (tOp (rIn G.K true) (tBM0 G.K "str" rLower (tSl rSlS (tVar 0) (tPart (tVar 2)) (tPart (tVar 5)))) (tVar 1)))) (tDrop (tBM G.K "list" rAppend (tVar 1) (tCons (tBM0 G.K "str" rLower (tSl rSlS (tVar 0) (tPart (tVar 2)) (tPart (tVar 5)))) tNil))) tNext)
    (tAsg (tOp rAddI (tVar 5) (tC (.int 1))) (gName 2))) tNext))
    (tRet (tCB (rSortedStr G.K) (tCons (tVar 1) tNil))))))))
def N__law_word : List Str := ["_law_stream_here", "_law_text_here", "_law_signs", "_law_k"]
def t__law_word (G : Gv) : TS :=
  (tSeq (tAsg (tC (.str "")) (gName 1))
    (tSeq (tAsg (tC (.str "abcdefghijklmnopqrstuvwxyzABCDEFGHIJKLMNOPQRSTUVWXYZ0123456789")) (gName 2))
    (tSeq (tFor (iRng1 (tCons (tOp rAddI (tC (.int 1)) (tCall (sp__law_next G) [] E0 (tCons (tVar 0) (tCons (tC (.int 4)) tNil)))) tNil)) (gName 3) (tAsg (tOp rAddS (tVar 1) (tOp rIxS (tVar 2) (tCall (sp__law_next G) [] E0 (tCons (tVar 0) (tCons (tC (.int 62)) tNil))))) (gName 1)))
    (tRet (tVar 1)))))
def N__law_any : List Str := ["_law_stream_here", "_law_signs", "_law_text_here", "_law_k"]
def t__law_any (G : Gv) : TS :=
  (tSeq (tAsg (tC (.str " !\"#$&'()*+,-./0123456789:;<=>?@ABCDEFGHIJKLMNOPQRSTUVWXYZ[\\]^_`abcdefghijklmnopqrstuvwxyz{|}~\n\t")) (gName 1))
    (tSeq (tAsg (tC (.str "")) (gName 2))
    (tSeq (tFor (iRng1 (tCons (tCall (sp__law_next G) [] E0 (tCons (tVar 0) (tCons (tC (.int 60)) tNil))) tNil)) (gName 3) (tAsg (tOp rAddS (tVar 2) (tOp rIxS (tVar 1) (tCall (sp__law_next G) [] E0 (tCons (tVar 0) (tCons (tC (.int 96)) tNil))))) (gName 2)))
    (tRet (tSl rSlS (tOp rMulS (tVar 2) (tOp (rIxT G.K) (tTup (tCons (tC (.int 1)) (tCons (tC (.int 1)) (tCons (tC (.int 1)) (tCons (tC (.int 8)) tNil))))) (tCall (sp__law_next G) [] E0 (tCons (tVar 0) (tCons (tC (.int 4)) tNil))))) tNoPart (tPart (tC (.int 400))))))))
def N__law_text : List Str := ["_law_people_here", "_law_stream_here", "_law_parts", "_law_k", "_law_kind"]
def t__law_text (G : Gv) : TS :=
  (tSeq (tAsg (tLst tNil) (gName 2))
    (tSeq (tFor (iRng1 (tCons (tOp rAddI (tC (.int 1)) (tCall (sp__law_next G) [] E0 (tCons (tVar 1) (tCons (tC (.int 6)) tNil)))) tNil)) (gName 3) (tSeq (tAsg (tCall (sp__law_next G) [] E0 (tCons (tVar 1) (tCons (tC (.int 5)) tNil))) (gName 4))
    (tMid (tIfS (tTest (tOp rEq (tVar 4) (tC (.int 0)))) (tDrop (tBM G.K "list" rAppend (tVar 2) (tCons (tOp rAddS (tC (.str "@")) (tOp (rIxL G.K) (tVar 0) (tCall (sp__law_next G) [] E0 (tCons (tVar 1) (tCons (tCB (rLen G.K) (tCons (tVar 0) tNil)) tNil))))) tNil))) (tIfS (tTest (tOp rEq (tVar 4) (tC (.int 1)))) (tDrop (tBM G.K "list" rAppend (tVar 2) (tCons (tOp (rIxT G.K) (tTup (tCons (tC (.str "tea")) (tCons (tC (.str "Tea")) (tCons (tC (.str "at4")) (tCons (tC (.str "me")) (tCons (tC (.str "4")) (tCons (tC (.str "no")) tNil))))))) (tCall (sp__law_next G) [] E0 (tCons (tVar 1) (tCons (tC (.int 6)) tNil)))) tNil))) (tDrop (tBM G.K "list" rAppend (tVar 2) (tCons (tCall (sp__law_word G) [] E0 (tCons (tVar 1) tNil)) tNil)))))
    (tDrop (tBM G.K "list" rAppend (tVar 2) (tCons (tOp (rIxT G.K) (tTup (tCons (tC (.str " ")) (tCons (tC (.str ", ")) (tCons (tC (.str "!")) (tCons (tC (.str "\n")) (tCons (tC (.str "-")) (tCons (tC (.str "@")) (tCons (tC (.str "a")) (tCons (tC (.str "7")) (tCons (tC (.str " @")) (tCons (tC (.str "_")) (tCons (tC (.str "Z")) tNil)))))))))))) (tCall (sp__law_next G) [] E0 (tCons (tVar 1) (tCons (tC (.int 11)) tNil)))) tNil))))))
    (tRet (tSl rSlS (tOp rMulS (tBM G.K "str" (rJoin G.K) (tC (.str "")) (tCons (tVar 2) tNil)) (tOp (rIxT G.K) (tTup (tCons (tC (.int 1)) (tCons (tC (.int 1)) (tCons (tC (.int 1)) (tCons (tC (.int 1)) (tCons (tC (.int 1)) (tCons (tC (.int 1)) (tCons (tC (.int 1)) (tCons (tC (.int 5)) tNil))))))))) (tCall (sp__law_next G) [] E0 (tCons (tVar 1) (tCons (tC (.int 8)) tNil))))) tNoPart (tPart (tC (.int 400)))))))
def N_law : List Str := ["_law_script", "_law_k", "_law_stream_here", "_law_text_here", "_law_turn", "_law_told"]
def t_law (G : Gv) : TS :=
  (tSeq (tFor (iRng1 (tCons (tCB rMin2 (tCons (tCB (rLen G.K) (tCons (tVar 0) tNil)) (tCons (tC (.int 40)) tNil))) tNil)) (gName 1) (tSeq (tAsg (tCall (sp__law_stream G) [] E0 (tCons (tOp (rIxL G.K) (tVar 0) (tVar 1)) (tCons (tVar 1) tNil))) (gName 2))
    (tSeq (tAsg (tCall (sp__law_any G) [] E0 (tCons (tVar 2) tNil)) (gName 3))
    (tMid (tIfS (tTest (tOp rEq (tCall (sp__law_next G) [] E0 (tCons (tVar 2) (tCons (tC (.int 2)) tNil))) (tC (.int 0)))) (tAsg (tCall (sp__law_text G) [] E0 (tCons (tLst (tCons (tC (.str "anna")) (tCons (tC (.str "bert")) tNil))) (tCons (tVar 2) tNil))) (gName 3)) tNext)
    (tFor (iRng1 (tCons (tC (.int 2)) tNil)) (gName 4) (tSeq (tAsg (tCall (sp_words_of G) [] E0 (tCons (tVar 3) tNil)) (gName 5))
    (tSeq (tIfS (tOr (tNot (tB (tCB (rIsi G.K) (tCons (tVar 5) (tCons (tC (.ty "list")) tNil))))) (tTest (tOp (rNeD G.K) (tVar 5) (tCall (sp__law_due G) [] E0 (tCons (tVar 3) tNil))))) (tRet (tC (.bl false))) tNext)
    (tDrop (tBM G.K "list" rAppend (tVar 5) (tCons (tC (.str "x")) tNil))))))))))
    (tRet (tAndV (tOp (rEqD G.K) (tCall (sp_words_of G) [] E0 (tCons (tC (.str "")) tNil)) (tLst tNil)) (tOp (rEqD G.K) (tCall (sp_words_of G) [] E0 (tCons (tC (.str "A-a")) tNil)) (tLst (tCons (tC (.str "a")) tNil))))))
end
local macro_rules | `(tactic| walk_at "ne") => `(tactic| first
  | assumption | (apply Ne.symm; assumption)
  | exact ne_of_none (by assumption) (by assumption) | exact (ne_of_none (by assumption) (by assumption)).symm
  | exact ne_of (by assumption) (by assumption) (by intro z; cases z)
  | exact ne_of_none (by walk_at "look") (by assumption) | exact (ne_of_none (by walk_at "look") (by assumption)).symm)
local macro_rules | `(tactic| walk_at "look") => `(tactic| first
  | assumption | exact upd_same | (refine Eq.trans (upd_ne ?lkn) ?lk; (case lkn => walk_at "ne"); (case lk => walk_at "look")))
local macro_rules | `(tactic| walk_at "seq") => `(tactic| first
  | assumption | exact SqL.of (by walk_at "look") | exact SqT.of (by walk_at "look"))
local macro_rules | `(tactic| walk_at "arith") => `(tactic| first
  | assumption | omega | decide | (simp only [List.length_nil, List.length_cons] <;> decide) | (constructor <;> omega) | (refine Or.inl ⟨?_, ?_⟩ <;> omega) | (refine Or.inr ⟨?_, ?_⟩ <;> omega))
local macro_rules | `(tactic| walk_at "wp1") => `(tactic| first
  | with_reducible refine w_seq ?_ | with_reducible refine w_asg ?_ | with_reducible refine w_ret ?_ | with_reducible refine w_c ?_
  | ((with_reducible show tVar _ _ _ _); refine w_var rfl ?_) | with_reducible refine w_op ?_ | with_reducible refine w_cons ?_ | with_reducible refine w_nil ?_
  | with_reducible refine w_if ?_ | with_reducible refine w_test ?_ | with_reducible refine w_bl ?_ | with_reducible refine w_B ?_
  | with_reducible refine w_cb ?_ | with_reducible refine w_call ?_ | with_reducible refine w_un ?_ | with_reducible refine w_drop ?_
  | with_reducible refine w_next ?_ | with_reducible refine w_not ?_ | with_reducible refine w_and ?_ | with_reducible refine w_or ?_
  | with_reducible refine w_tru ?_ | with_reducible refine w_andV ?_ | with_reducible refine w_orV ?_ | with_reducible refine w_notV ?_ | with_reducible refine w_blI ?_
  | with_reducible refine w_ife ?_ | with_reducible refine w_retN ?_ | with_reducible refine w_brk ?_ | with_reducible refine w_cont ?_
  | ((with_reducible show tAug _ _ _ _ _ _); refine w_aug rfl ?_) | with_reducible refine w_gname ?_ | with_reducible refine w_asgT ?_ | with_reducible refine w_gsub ?_
  | with_reducible refine w_sl ?_ | with_reducible refine w_part ?_ | with_reducible refine w_nopart ?_ | with_reducible refine p_part ?_
  | with_reducible refine w_for ?_ | with_reducible refine w_rng1 ?_ | with_reducible refine w_rng2 ?_ | with_reducible refine w_ilist ?_ | with_reducible refine w_itup ?_ | with_reducible refine w_istr ?_
  | with_reducible refine p_addI ?_ | with_reducible refine p_subI ?_ | with_reducible refine p_ltI ?_ | with_reducible refine p_leI ?_ | with_reducible refine p_gtI ?_ | with_reducible refine p_geI ?_
  | with_reducible refine p_eqI ?_ | with_reducible refine p_neI ?_ | with_reducible refine p_eqS ?_ | with_reducible refine p_neS ?_ | with_reducible refine p_ltS ?_ | with_reducible refine p_leS ?_
  | with_reducible refine p_int1 ?_ | with_reducible refine p_min2 ?_ | with_reducible refine p_max2 ?_ | with_reducible refine p_inS ?_ | with_reducible refine p_notInS ?_
  | ((with_reducible show rMulI _ _ _ _); refine p_mulI (by walk_at "arith") ?_) | ((with_reducible show rModI _ _ _ _); refine p_modI (by walk_at "arith") ?_)
  | ((with_reducible show rDivI _ _ _ _); refine p_divI (by walk_at "arith") (by walk_at "arith") ?_)
  | ((with_reducible show rPowI _ _ _ _); refine p_powI (by decide) ?_) | ((with_reducible show rAddS _ _ _ _); refine p_addS (by walk_at "arith") ?_)
  | ((with_reducible show rStrI _ _ _); refine p_strI (by walk_at "arith") ?_)
  | ((with_reducible show rLen _ [V.str _] _ _); refine p_lenS (by walk_at "arith") ?_) | ((with_reducible show rLen _ [V.ref _] _ _); first | refine p_lenL (by walk_at "seq") ?_ | refine p_lenT (by walk_at "seq") ?_)
  | ((with_reducible show rIxL _ _ _ _ _); refine p_ixL (by walk_at "seq") (by exact rfl) ?_) | ((with_reducible show rIxT _ _ _ _ _); refine p_ixT (by walk_at "seq") (by exact rfl) ?_)
  | ((with_reducible show rSlS _ _ _ _ _); refine p_slS (by walk_at "arith") ?_) | ((with_reducible show rLower _ _ _ _); refine p_lower (by walk_at "arith") ?_)
  | ((with_reducible show rSetL _ _ _ _ _); refine p_setL (by walk_at "look") (by exact rfl) ?_)
  | ((with_reducible show rAppend _ _ _ _); refine p_append (by walk_at "look") (by walk_at "arith") ?_)
  | with_reducible refine w_bm ?_ | with_reducible refine w_bm0 ?_ | ((with_reducible show tyV _ _ (V.str _) _ ∧ _); refine ⟨tyS rfl, ?_⟩) | ((with_reducible show tyV _ _ (V.ref _) _ ∧ _); refine ⟨tyL (by walk_at "look"), ?_⟩)
  | (refine w_truS (by walk_at "arith") ?_)
  | with_reducible refine p_ipAddI ?_ | with_reducible refine p_ipSubI ?_ | ((with_reducible show ipAddS _ _ _ _); refine p_ipAddS (by walk_at "arith") ?_)
  | with_reducible refine iteT ?_ | with_reducible refine iteF ?_ | with_reducible refine ifN ?_
  | with_reducible refine w_tup ?_ | with_reducible refine w_lst ?_)
local macro_rules | `(tactic| walk_at "wp") => `(tactic| repeat walk_at "wp1")
section
/-! K57p: each reading keeps its promise. -/
variable {G : Gv}
theorem pure__law_next (vs : List V) (H : Hp) (Q : VK) (E : XK) (h : sp__law_next G vs H Q E) : t__law_next G { nx := fun _ H' => Q .non H', rt := Q } (L2.start N__law_next vs) H := by
  obtain ⟨a, d, s, z, rfl, hA, hz, hz2, k⟩ := h
  show tSeq _ _ _ [some (V.ref a), some (V.int z), none] H
  walk_at "wp"
  have m1 : ∀ x : Int, 0 ≤ x % z := fun x => Int.emod_nonneg x (by omega)
  have m2 : ∀ x : Int, x % z < z := fun x => Int.emod_lt_of_pos x hz
  refine ifD (fun h0 => ?_) (fun h0 => ?_)
  · walk_at "wp"
    exact k _ _ _ (m1 _) (m2 _)
  · walk_at "wp"
    exact k _ _ _ (m1 _) (m2 _)
theorem pure__law_stream (vs : List V) (H : Hp) (Q : VK) (E : XK) (h : sp__law_stream G vs H Q E) : t__law_stream G { nx := fun _ H' => Q .non H', rt := Q } (L2.start N__law_stream vs) H := by
  obtain ⟨c, k, rfl, q⟩ := h
  show tSeq _ _ _ [some (V.int c), some (V.int k), none] H
  walk_at "wp"
  refine w_mid (fun σ' H' => ∃ z, σ' = [some (V.int c), some (V.int k), some (V.int z)] ∧ H' = H) ?_ ?_
  · walk_at "wp"
    refine ifD (fun h0 => ?_) (fun h0 => ?_)
    · walk_at "wp"
      exact ⟨_, rfl, rfl⟩
    · walk_at "wp"
      exact ⟨_, rfl, rfl⟩
  · rintro σ' H' ⟨z, rfl, rfl⟩
    walk_at "wp"
    exact ⟨by simp; decide, fun p hp => q p _ _ hp⟩
/-- a draw, where the stream stands -/
theorem draw {H : Hp} {a : Addr} {z : Int} {Q : VK} {E : XK} (hA : Strm H a) (h1 : 0 < z ∧ z < 2 ^ 63) (k : ∀ d s r : Int, 0 ≤ r → r < z → Q (V.int r) (upd H a (HO.lst [V.int d, V.int s]))) : sp__law_next G [V.ref a, V.int z] H Q E := by
  obtain ⟨d, s, h⟩ := hA
  exact ⟨a, d, s, z, rfl, h, h1.1, h1.2, k⟩
theorem strm_upd {H : Hp} {a : Addr} {d s : Int} : Strm (upd H a (HO.lst [V.int d, V.int s])) a := ⟨d, s, upd_same⟩
theorem small_at {l : List Nat} {r : Int} (h0 : 0 ≤ r) (h1 : r < l.length) : ∃ c, atI l r = some c ∧ c ∈ l := by
  obtain ⟨n, rfl⟩ : ∃ n : Nat, r = (n : Int) := ⟨r.toNat, by omega⟩
  have hn : n < l.length := by omega
  exact ⟨l[n], atI_nat (by simp [hn]), List.getElem_mem hn⟩
abbrev az : Str := "abcdefghijklmnopqrstuvwxyzABCDEFGHIJKLMNOPQRSTUVWXYZ0123456789"
theorem az_len : az.cps.toList.length = 62 := by decide +kernel
theorem az_ascii : ∀ c ∈ az.cps.toList, c < 128 := by decide +kernel
theorem ascii_snoc {z : Str} {c : Nat} (h : Ascii z) (hc : c < 128) : Ascii (z ++ ⟨#[c]⟩) := by
  intro x hx
  have e : (z ++ (⟨#[c]⟩ : Str)).cps.toList = z.cps.toList ++ [c] := TL.tl_append z ⟨#[c]⟩
  rw [e] at hx
  rcases List.mem_append.mp hx with hx | hx
  · exact h x hx
  · rw [List.mem_singleton] at hx
    rw [hx]
    exact hc
theorem len_snoc (z : Str) (c : Nat) : (z ++ (⟨#[c]⟩ : Str)).length = z.length + 1 := by
  rw [len_cps, len_cps z]
  have e : (z ++ (⟨#[c]⟩ : Str)).cps.toList = z.cps.toList ++ [c] := TL.tl_append z ⟨#[c]⟩
  rw [e, List.length_append, List.length_singleton]
theorem ascii_empty : Ascii "" := fun c hc => by
  have e : ("" : Str).cps.toList = [] := by decide +kernel
  rw [e] at hc
  cases hc
theorem len_empty : ("" : Str).length = 0 := by decide +kernel
theorem sl16 {n : Nat} (h : n ≤ 1000000) : n ≤ sizeLine := by rw [sizeLine_eq]; omega
theorem pure__law_word (vs : List V) (H : Hp) (Q : VK) (E : XK) (h : sp__law_word G vs H Q E) : t__law_word G { nx := fun _ H' => Q .non H', rt := Q } (L2.start N__law_word vs) H := by
  obtain ⟨a, rfl, hA, k⟩ := h
  show tSeq _ _ _ [some (V.ref a), none, none, none] H
  walk_at "wp"
  refine draw hA (by decide) fun d s r h0 h1 => ?_
  walk_at "wp"
  refine l_rng1 (fun i σ' H' => ∃ z v d s, σ' = [some (V.ref a), some (V.str z), some (V.str az), v] ∧ H' = upd H a (HO.lst [V.int d, V.int s]) ∧ z.length = i ∧ Ascii z) (by omega) ⟨"", none, d, s, rfl, rfl, len_empty, ascii_empty⟩ ?_ ?_
  · rintro i σ' H' hi ⟨z, v, d, s, rfl, rfl, hz, ha⟩
    walk_at "wp"
    refine draw strm_upd (by decide) fun d s r h0 h1 => ?_
    obtain ⟨c, hc, hm⟩ := small_at (l := az.cps.toList) h0 (by rw [az_len]; exact h1)
    walk_at "wp"
    refine p_ixS (sl16 (by rw [len_cps, az_len]; omega)) hc ?_
    refine p_addS (sl16 (by rw [hz]; show i + 1 ≤ _; omega)) ?_
    exact ⟨_, _, d, s, rfl, upd_upd, by rw [len_snoc, hz], ascii_snoc ha (az_ascii c hm)⟩
  · rintro σ' H' ⟨z, v, d, s, rfl, rfl, hz, ha⟩
    walk_at "wp"
    exact k z d s (by omega) ha
theorem val_at {l : List V} {r : Int} (h0 : 0 ≤ r) (h1 : r < l.length) : ∃ v, atI l r = some v ∧ v ∈ l := by
  obtain ⟨n, rfl⟩ : ∃ n : Nat, r = (n : Int) := ⟨r.toNat, by omega⟩
  have hn : n < l.length := by omega
  exact ⟨l[n], atI_nat (by simp [hn]), List.getElem_mem hn⟩
abbrev anyz : Str := " !\"#$&'()*+,-./0123456789:;<=>?@ABCDEFGHIJKLMNOPQRSTUVWXYZ[\\]^_`abcdefghijklmnopqrstuvwxyz{|}~\n\t"
theorem anyz_len : anyz.cps.toList.length = 96 := by decide +kernel
theorem anyz_ascii : ∀ c ∈ anyz.cps.toList, c < 128 := by decide +kernel
theorem ascii_rep {z : Str} (h : Ascii z) (k : Nat) : Ascii (repS z k) := by
  intro c hc
  rw [repS_toList] at hc
  obtain ⟨l, hl, hc⟩ := List.mem_flatten.mp hc
  rw [List.mem_replicate] at hl
  rw [hl.2] at hc
  exact h c hc
theorem ascii_cut {z : Str} (h : Ascii z) (lo hi : Option Int) : Ascii (cutS z lo hi) := fun c hc => h c (List.mem_of_mem_drop (List.mem_of_mem_take hc))
theorem cut400 (z : Str) : (cutS z none (some 400)).length ≤ 400 := by
  rw [len_cps]
  show ((z.cps.toList.drop (HT.sIx z.length 0 none)).take (HT.sIx z.length z.length (some 400) - HT.sIx z.length 0 none)).length ≤ 400
  rw [List.length_take]
  have e : HT.sIx z.length z.length (some 400) ≤ 400 := by
    show (if (400 : Int) < 0 then ((400 : Int) + (z.length : Int)).toNat else min (400 : Int).toNat z.length) ≤ 400
    rw [if_neg (by decide)]
    show min 400 z.length ≤ 400
    omega
  omega
theorem Strm.but {a : Addr} {H H' : Hp} (h : Strm H a) (p : Addr) {o : HO} (hp : H p = none) : Strm (upd H p o) a := by
  obtain ⟨d, s, e⟩ := h
  exact ⟨d, s, by rw [upd_ne (ne_of_none e hp)]; exact e⟩
theorem pure__law_any (vs : List V) (H : Hp) (Q : VK) (E : XK) (h : sp__law_any G vs H Q E) : t__law_any G { nx := fun _ H' => Q .non H', rt := Q } (L2.start N__law_any vs) H := by
  obtain ⟨a, rfl, hA, k⟩ := h
  show tSeq _ _ _ [some (V.ref a), none, none, none] H
  walk_at "wp"
  refine draw hA (by decide) fun d s r h0 h1 => ?_
  refine l_rng1 (fun i σ' H' => ∃ z v d s, σ' = [some (V.ref a), some (V.str anyz), some (V.str z), v] ∧ H' = upd H a (HO.lst [V.int d, V.int s]) ∧ z.length = i ∧ Ascii z) (by omega) ⟨"", none, d, s, rfl, rfl, len_empty, ascii_empty⟩ ?_ ?_
  · rintro i σ' H' hi ⟨z, v, d, s, rfl, rfl, hz, ha⟩
    walk_at "wp"
    refine draw strm_upd (by decide) fun d s r h0 h1 => ?_
    obtain ⟨c, hc, hm⟩ := small_at (l := anyz.cps.toList) h0 (by rw [anyz_len]; exact h1)
    refine p_ixS (sl16 (by rw [len_cps, anyz_len]; omega)) hc ?_
    refine p_addS (sl16 (by rw [hz]; show i + 1 ≤ _; omega)) ?_
    exact ⟨_, _, d, s, rfl, upd_upd, by rw [len_snoc, hz], ascii_snoc ha (anyz_ascii c hm)⟩
  · rintro σ' H' ⟨z, v, d, s, rfl, rfl, hz, ha⟩
    walk_at "wp"
    refine ⟨by simp; decide, fun p hp => ?_⟩
    walk_at "wp"
    refine draw (strm_upd.but (H' := H) p hp) (by decide) fun d2 s2 r2 h2 h3 => ?_
    have hpa : p ≠ a := (ne_of_none upd_same hp).symm
    obtain ⟨v2, hv, hm⟩ := val_at (l := [V.int 1, V.int 1, V.int 1, V.int 8]) h2 h3
    refine p_ixT (SqT.of ((upd_ne hpa).trans upd_same)) hv ?_
    have hb : But a H (upd (upd (upd H a (HO.lst [V.int d, V.int s])) p (HO.tup [V.int 1, V.int 1, V.int 1, V.int 8])) a (HO.lst [V.int d2, V.int s2])) := (But.new But.upd hp).trans But.upd
    have fin : ∀ n : Nat, n < 10 → rMulS (V.str z) (V.int (n : Int)) (upd (upd (upd H a (HO.lst [V.int d, V.int s])) p (HO.tup [V.int 1, V.int 1, V.int 1, V.int 8])) a (HO.lst [V.int d2, V.int s2]))
        fun x H1 => tNoPart [some (V.ref a), some (V.str anyz), some (V.str z), v] H1 fun l H2 => tPart (tC (V.int 400)) [some (V.ref a), some (V.str anyz), some (V.str z), v] H2 fun u H3 => rSlS x l u H3 Q := fun n hn => by
      have hz2 : z.length * n ≤ 60 * 10 := Nat.mul_le_mul (by omega) (by omega)
      refine p_mulS n rfl (by omega) (by omega) ?_
      walk_at "wp"
      refine p_slS (sl16 (n := (repS z n).length) (by rw [repS_len]; omega)) ?_
      exact k _ _ (cut400 _) (ascii_cut (ascii_rep ha n) _ _) hb strm_upd
    have hv2 : v2 = V.int ((1 : Nat) : Int) ∨ v2 = V.int ((8 : Nat) : Int) := by
      simp only [List.mem_cons, List.not_mem_nil, or_false] at hm
      rcases hm with h | h | h | h
      · exact .inl h
      · exact .inl h
      · exact .inl h
      · exact .inr h
    rcases hv2 with e | e <;> subst e
    · exact fin 1 (by decide)
    · exact fin 8 (by decide)
/-! ### a text of parts -/
theorem joinL_flat : ∀ l : List (List Nat), TL.joinL [] l = l.flatten
  | [] => rfl
  | [x] => by simp [TL.joinL]
  | x :: y :: r => by
    have ih := joinL_flat (y :: r)
    show x ++ ([] ++ TL.joinL [] (y :: r)) = (x :: y :: r).flatten
    rw [ih, List.flatten_cons (l := x), List.nil_append]
theorem join_tl (ps : List Str) : (Txt.join "" ps).cps.toList = (ps.map fun x => x.cps.toList).flatten := by
  have e0 : TL.tl ("" : Str) = [] := by decide +kernel
  have e1 := TL.tl_join "" ps
  rw [e0, joinL_flat] at e1
  rw [TL.join_eq]
  exact e1
theorem sum_le {ps : List Str} {n : Nat} (h : ∀ x ∈ ps, x.length ≤ n) : (ps.map (·.length)).sum ≤ ps.length * n := by
  induction ps with
  | nil => simp
  | cons x r ih =>
    have h1 := h x List.mem_cons_self
    have h2 := ih fun y hy => h y (List.mem_cons_of_mem _ hy)
    rw [List.map_cons, List.sum_cons, List.length_cons, Nat.succ_mul]
    omega
theorem join_len (ps : List Str) : (Txt.join "" ps).length = (ps.map (·.length)).sum := by
  rw [len_cps, join_tl, List.length_flatten, List.map_map]
  exact congrArg List.sum (List.map_congr_left fun x _ => (len_cps x).symm)
theorem join_ascii {ps : List Str} (h : ∀ x ∈ ps, Ascii x) : Ascii (Txt.join "" ps) := by
  intro c hc
  rw [join_tl] at hc
  obtain ⟨l, hl, hc⟩ := List.mem_flatten.mp hc
  obtain ⟨x, hx, rfl⟩ := List.mem_map.mp hl
  exact h x hx c hc
theorem p_join {K : PySem.W.Frag} {H : Hp} {Q : VK} {a : Str} {p : Addr} {ys : List Str} (h : H p = some (HO.lst (ys.map V.str))) (h2 : (ys.map (·.length)).sum + ys.length * a.length ≤ 16777216) (z : Q (V.str (Txt.join a ys)) H) :
    rJoin K (V.str a) [V.ref p] H Q := ⟨a, p, ys, rfl, rfl, .inl (SqL.of h), h2, z⟩
/-- the parts so far: at p -/
structure Parts (H0 H : Hp) (a p : Addr) (ps : List Str) (n : Nat) : Prop where
  keep : But a H0 H
  new : H0 p = none
  strm : Strm H a
  at_ : H p = some (HO.lst (ps.map V.str))
  ne : p ≠ a
  len : ps.length ≤ n
  ok : ∀ x ∈ ps, x.length ≤ 21 ∧ Ascii x
theorem Parts.drawn {H0 H : Hp} {a p : Addr} {ps : List Str} {n : Nat} {d s : Int} (h : Parts H0 H a p ps n) : Parts H0 (upd H a (HO.lst [V.int d, V.int s])) a p ps n :=
  ⟨h.keep.trans But.upd, h.new, strm_upd, by rw [upd_ne h.ne]; exact h.at_, h.ne, h.len, h.ok⟩
theorem Parts.laid {H0 H : Hp} {a p q : Addr} {ps : List Str} {n : Nat} {o : HO} (h : Parts H0 H a p ps n) (hq : H q = none) : Parts H0 (upd H q o) a p ps n :=
  ⟨h.keep.new hq, h.new, h.strm.but (H' := H) q hq, by rw [upd_ne (ne_of_none h.at_ hq)]; exact h.at_, h.ne, h.len, h.ok⟩
theorem Parts.app {H0 H : Hp} {a p : Addr} {ps : List Str} {n : Nat} {x : Str} (h : Parts H0 H a p ps n) (hx : x.length ≤ 21 ∧ Ascii x) : Parts H0 (upd H p (HO.lst (ps.map V.str ++ [V.str x]))) a p (ps ++ [x]) (n + 1) := by
  have e : ps.map V.str ++ [V.str x] = (ps ++ [x]).map V.str := by simp
  refine ⟨fun b o hb hn => ?_, h.new, ?_, by rw [upd_same, e], h.ne, by rw [List.length_append, List.length_singleton]; have := h.len; omega, fun y hy => ?_⟩
  · rw [upd_ne (ne_of_none hb h.new)]
    exact h.keep b o hb hn
  · obtain ⟨d, s, e⟩ := h.strm
    exact ⟨d, s, by rw [upd_ne h.ne.symm]; exact e⟩
  · rcases List.mem_append.mp hy with hy | hy
    · exact h.ok y hy
    · rw [List.mem_singleton] at hy
      rw [hy]
      exact hx
theorem Parts.mono {H0 H : Hp} {a p : Addr} {ps : List Str} {n m : Nat} (h : Parts H0 H a p ps n) (l : n ≤ m) : Parts H0 H a p ps m := ⟨h.keep, h.new, h.strm, h.at_, h.ne, Nat.le_trans h.len l, h.ok⟩
/-- a drawn one of some written texts -/
theorem str_at {l : List Str} {r : Int} (h0 : 0 ≤ r) (h1 : r < l.length) : ∃ x, atI (l.map V.str) r = some (V.str x) ∧ x ∈ l := by
  obtain ⟨n, rfl⟩ : ∃ n : Nat, r = (n : Int) := ⟨r.toNat, by omega⟩
  have hn : n < l.length := by omega
  exact ⟨l[n], atI_nat (by simp [hn]), List.getElem_mem hn⟩
def teas : List Str := ["tea", "Tea", "at4", "me", "4", "no"]
def puncts : List Str := [" ", ", ", "!", "\n", "-", "@", "a", "7", " @", "_", "Z"]
theorem teas_ok : ∀ x ∈ teas, x.length ≤ 21 ∧ Ascii x := by
  unfold Ascii
  decide +kernel
theorem puncts_ok : ∀ x ∈ puncts, x.length ≤ 21 ∧ Ascii x := by
  unfold Ascii
  decide +kernel
theorem at_ok {x : Str} (h : x.length ≤ 20 ∧ Ascii x) : ("@" ++ x : Str).length ≤ 21 ∧ Ascii ("@" ++ x) := by
  have e : ("@" ++ x : Str).cps.toList = 64 :: x.cps.toList := TL.tl_append "@" x
  refine ⟨?_, fun c hc => ?_⟩
  · rw [len_cps, e, List.length_cons]
    have := h.1
    rw [len_cps] at this
    omega
  · rw [e] at hc
    rcases List.mem_cons.mp hc with hc | hc
    · rw [hc]
      decide
    · exact h.2 c hc
theorem pure__law_text (vs : List V) (H : Hp) (Q : VK) (E : XK) (h : sp__law_text G vs H Q E) : t__law_text G { nx := fun _ H' => Q .non H', rt := Q } (L2.start N__law_text vs) H := by
  obtain ⟨a, l, xs, rfl, hA, hl, hx0, hx1, hxs, k⟩ := h
  show tSeq _ _ _ [some (V.ref l), some (V.ref a), none, none, none] H
  walk_at "wp"
  refine ⟨Nat.zero_le _, fun p hp => ?_⟩
  have hpa : p ≠ a := by
    obtain ⟨d, s, e⟩ := hA
    exact (ne_of_none e hp).symm
  have P0 : Parts H (upd H p (HO.lst [])) a p [] 0 := ⟨But.new (But.refl a H) hp, hp, hA.but (H' := H) p hp, upd_same, hpa, Nat.le_refl _, fun x hx => nomatch hx⟩
  have hla : l ≠ a := by
    obtain ⟨d, s, e⟩ := hA
    refine ne_of hl e fun z => ?_
    obtain ⟨x, r, rfl⟩ := List.exists_cons_of_length_pos hx0
    injection z with z
    cases z
  walk_at "wp"
  refine draw P0.strm (by decide) fun d s r h0 h1 => ?_
  walk_at "wp"
  refine l_rng1 (fun i σ' H' => ∃ ps u v, σ' = [some (V.ref l), some (V.ref a), some (V.ref p), u, v] ∧ Parts H H' a p ps (2 * i)) (by omega) ⟨[], none, none, rfl, P0.drawn⟩ ?_ ?_
  · rintro i σ' H' hi ⟨ps, u, v, rfl, hP⟩
    have hn : 2 * i ≤ 12 := by omega
    walk_at "wp"
    refine draw hP.strm (by decide) fun d s r h0 h1 => ?_
    walk_at "wp"
    have hl' : H' l = some (HO.lst (xs.map V.str)) := hP.keep l _ hl hla
    have hlp : l ≠ p := ne_of_none hl hp
    have hP1 := hP.drawn (d := d) (s := s)
    have hroom : ∀ ps : List Str, ps.length ≤ 2 * i + 1 → (ps.map V.str).length < sizeLine := fun ps h => by
      rw [List.length_map, sizeLine_eq]
      omega
    refine w_mid (fun σ' H2 => ∃ ps2 w, σ' = [some (V.ref l), some (V.ref a), some (V.ref p), some (V.int (i : Int)), w] ∧ Parts H H2 a p ps2 (2 * i + 1)) ?_ ?_
    · walk_at "wp"
      refine ifD (fun _ => ?_) (fun _ => ?_)
      · walk_at "wp"
        refine ⟨tyL hP1.at_, ?_⟩
        walk_at "wp"
        refine draw hP1.strm (by rw [List.length_map]; omega) fun d2 s2 r2 h2 h3 => ?_
        rw [List.length_map] at h3
        obtain ⟨x, hx, hm⟩ := str_at (l := xs) h2 h3
        refine p_ixL (SqL.of ((upd_ne hla).trans ((upd_ne hla).trans hl'))) hx ?_
        have ha := at_ok (hxs x hm)
        refine p_addS (by have := hxs x hm; rw [sizeLine_eq]; have e1 : ("@" : Str).length = 1 := by decide +kernel
                          omega) ?_
        walk_at "wp"
        refine p_append hP1.drawn.at_ (hroom ps (by have := hP.len; omega)) ?_
        exact ⟨_, _, rfl, hP1.drawn.app ha⟩
      · walk_at "wp"
        refine ifD (fun _ => ?_) (fun _ => ?_)
        · walk_at "wp"
          refine ⟨tyL hP1.at_, ?_⟩
          walk_at "wp"
          refine ⟨by simp; decide, fun q hq => ?_⟩
          have hP2 := hP1.laid (o := HO.tup (teas.map V.str)) hq
          walk_at "wp"
          refine draw hP2.strm (by decide) fun d2 s2 r2 h2 h3 => ?_
          obtain ⟨x, hx, hm⟩ := str_at (l := teas) h2 h3
          have hqa : q ≠ a := (ne_of_none (hP1.strm.choose_spec.choose_spec) hq).symm
          refine p_ixT (SqT.of ((upd_ne hqa).trans upd_same)) hx ?_
          walk_at "wp"
          refine p_append hP2.drawn.at_ (hroom ps (by have := hP.len; omega)) ?_
          exact ⟨_, _, rfl, hP2.drawn.app (teas_ok x hm)⟩
        · walk_at "wp"
          refine ⟨tyL hP1.at_, ?_⟩
          walk_at "wp"
          refine ⟨a, rfl, hP1.strm, fun z d2 s2 hz ha => ?_⟩
          walk_at "wp"
          refine p_append hP1.drawn.at_ (hroom ps (by have := hP.len; omega)) ?_
          exact ⟨_, _, rfl, hP1.drawn.app ⟨by omega, ha⟩⟩
    · rintro σ2 H2 ⟨ps2, w, rfl, hP2⟩
      walk_at "wp"
      refine ⟨tyL hP2.at_, ?_⟩
      walk_at "wp"
      refine ⟨by simp; decide, fun q hq => ?_⟩
      have hP3 := hP2.laid (o := HO.tup (puncts.map V.str)) hq
      walk_at "wp"
      refine draw hP3.strm (by decide) fun d2 s2 r2 h2 h3 => ?_
      obtain ⟨x, hx, hm⟩ := str_at (l := puncts) h2 h3
      have hqa : q ≠ a := (ne_of_none (hP2.strm.choose_spec.choose_spec) hq).symm
      refine p_ixT (SqT.of ((upd_ne hqa).trans upd_same)) hx ?_
      walk_at "wp"
      refine p_append hP3.drawn.at_ (hroom ps2 hP2.len) ?_
      exact ⟨_, _, _, rfl, (hP3.drawn.app (puncts_ok x hm)).mono (by omega)⟩
  · rintro σ' H' ⟨ps, u, v, rfl, hP⟩
    have hn : ps.length ≤ 12 := by have := hP.len; omega
    walk_at "wp"
    have hsum := sum_le fun x hx => (hP.ok x hx).1
    have hsl : (Txt.join "" ps).length ≤ 252 := by
      rw [join_len]
      omega
    refine p_join hP.at_ (by rw [len_empty]; omega) ?_
    walk_at "wp"
    refine ⟨by simp; decide, fun q hq => ?_⟩
    have hP3 := hP.laid (o := HO.tup [V.int 1, V.int 1, V.int 1, V.int 1, V.int 1, V.int 1, V.int 1, V.int 5]) hq
    walk_at "wp"
    refine draw hP3.strm (by decide) fun d2 s2 r2 h2 h3 => ?_
    have hqa : q ≠ a := (ne_of_none (hP.strm.choose_spec.choose_spec) hq).symm
    obtain ⟨v2, hv, hm⟩ := val_at (l := [V.int 1, V.int 1, V.int 1, V.int 1, V.int 1, V.int 1, V.int 1, V.int 5]) h2 h3
    refine p_ixT (SqT.of ((upd_ne hqa).trans upd_same)) hv ?_
    have fin : ∀ n : Nat, n < 10 → rMulS (V.str (Txt.join "" ps)) (V.int (n : Int)) (upd (upd H' q (HO.tup [V.int 1, V.int 1, V.int 1, V.int 1, V.int 1, V.int 1, V.int 1, V.int 5])) a (HO.lst [V.int d2, V.int s2]))
        fun x H1 => tNoPart [some (V.ref l), some (V.ref a), some (V.ref p), u, v] H1 fun l2 H2 => tPart (tC (V.int 400)) [some (V.ref l), some (V.ref a), some (V.ref p), u, v] H2 fun u H3 => rSlS x l2 u H3 Q := fun n hn => by
      have hz2 : (Txt.join "" ps).length * n ≤ 252 * 10 := Nat.mul_le_mul hsl (by omega)
      refine p_mulS n rfl (by omega) (by omega) ?_
      walk_at "wp"
      refine p_slS (sl16 (n := (repS (Txt.join "" ps) n).length) (by rw [repS_len]; omega)) ?_
      exact k _ _ (cut400 _) (ascii_cut (ascii_rep (join_ascii fun x hx => (hP.ok x hx).2) n) _ _) hP3.drawn.keep strm_upd
    have hv2 : v2 = V.int ((1 : Nat) : Int) ∨ v2 = V.int ((5 : Nat) : Int) := by
      simp only [List.mem_cons, List.not_mem_nil, or_false] at hm
      rcases hm with h | h | h | h | h | h | h | h
      all_goals first
        | exact .inl h
        | exact .inr h
    rcases hv2 with e | e <;> subst e
    · exact fin 1 (by decide)
    · exact fin 5 (by decide)
end
section
/-! K57q: words_of, _law_due and the law. -/
variable {G : Gv}
theorem in_small (c : Nat) : c ∈ ("abcdefghijklmnopqrstuvwxyz" : Str).cps.toList ↔ 97 ≤ c ∧ c ≤ 122 := by
  have e : ("abcdefghijklmnopqrstuvwxyz" : Str).cps.toList = (List.range 26).map (· + 97) := by decide +kernel
  rw [e, List.mem_map]
  constructor
  · rintro ⟨x, hx, rfl⟩
    rw [List.mem_range] at hx
    omega
  · intro h
    exact ⟨c - 97, List.mem_range.mpr (by omega), by omega⟩
theorem in_digits (c : Nat) : c ∈ ("0123456789" : Str).cps.toList ↔ 48 ≤ c ∧ c ≤ 57 := by
  have e : ("0123456789" : Str).cps.toList = (List.range 10).map (· + 48) := by decide +kernel
  rw [e, List.mem_map]
  constructor
  · rintro ⟨x, hx, rfl⟩
    rw [List.mem_range] at hx
    omega
  · intro h
    exact ⟨c - 48, List.mem_range.mpr (by omega), by omega⟩
theorem in_large (c : Nat) : c ∈ ("ABCDEFGHIJKLMNOPQRSTUVWXYZ" : Str).cps.toList ↔ 65 ≤ c ∧ c ≤ 90 := by
  have e : ("ABCDEFGHIJKLMNOPQRSTUVWXYZ" : Str).cps.toList = (List.range 26).map (· + 65) := by decide +kernel
  rw [e, List.mem_map]
  constructor
  · rintro ⟨x, hx, rfl⟩
    rw [List.mem_range] at hx
    omega
  · intro h
    exact ⟨c - 65, List.mem_range.mpr (by omega), by omega⟩
theorem in_all (c : Nat) : c ∈ ("abcdefghijklmnopqrstuvwxyz0123456789" ++ "ABCDEFGHIJKLMNOPQRSTUVWXYZ" : Str).cps.toList ↔ isW (lo1 c) := by
  have e1 : ("abcdefghijklmnopqrstuvwxyz0123456789" : Str) = "abcdefghijklmnopqrstuvwxyz" ++ "0123456789" := by decide +kernel
  have e : ("abcdefghijklmnopqrstuvwxyz0123456789" ++ "ABCDEFGHIJKLMNOPQRSTUVWXYZ" : Str).cps.toList = ("abcdefghijklmnopqrstuvwxyz" : Str).cps.toList ++ ("0123456789" : Str).cps.toList ++ ("ABCDEFGHIJKLMNOPQRSTUVWXYZ" : Str).cps.toList := by
    rw [e1]
    exact (TL.tl_append _ _).trans (congrArg (· ++ _) (TL.tl_append _ _))
  rw [e, List.mem_append, List.mem_append, in_small, in_digits, in_large]
  unfold isW lo1
  split <;> omega
theorem lower_eq {z : Str} (h : Ascii z) : Txt.lower z = S (lows z) := by
  rw [lower_ascii h]
  apply TL.ext_tl
  show (z.cps.map lo1).toList = z.cps.toList.map lo1
  simp
theorem one_S (c : Nat) : (⟨#[c]⟩ : Str) = S [c] := rfl
theorem S_nil : (S [] : Str) = "" := by decide +kernel
theorem sp_S : (" " : Str) = S [32] := by decide +kernel
theorem lows_len (z : Str) : (lows z).length = z.length := by unfold lows; rw [List.length_map, len_cps]
/-- words_of's loop so far -/
theorem pure_words_of (vs : List V) (H : Hp) (Q : VK) (E : XK) (h : sp_words_of G vs H Q E) : t_words_of G { nx := fun _ H' => Q .non H', rt := Q } (L2.start N_words_of vs) H := by
  obtain ⟨z, rfl, hz, ha, k⟩ := h
  show tSeq _ _ _ [some (V.str z), none, none, none] H
  walk_at "wp"
  refine ⟨Nat.zero_le _, fun p hp => ?_⟩
  walk_at "wp"
  rw [lower_eq ha, sp_S]
  refine p_addS (sl16 (by rw [S_len, S_len, lows_len]; simp; omega)) ?_
  rw [S_app]
  have hl : (lows z ++ [32]).length ≤ 401 := by rw [List.length_append, lows_len]; simp; omega
  refine l_str (fun i σ' H' => ∃ v, σ' = [some (V.str z), some (V.ref p), some (V.str (S (((lows z ++ [32]).take i).foldl wstep ([], [])).2)), v] ∧
    H' = upd H p (HO.lst (((((lows z ++ [32]).take i).foldl wstep ([], [])).1.map S).map V.str))) ⟨none, by rw [← S_nil]; rfl, rfl⟩ ?_ ?_
  · rintro i c σ' H' hc ⟨v, rfl, rfl⟩
    have hc : (lows z ++ [32])[i]? = some c := hc
    have hi : i < (lows z ++ [32]).length := (List.getElem?_eq_some_iff.mp hc).1
    have htk : (lows z ++ [32]).take (i + 1) = (lows z ++ [32]).take i ++ [c] := by rw [List.take_add_one, hc]; rfl
    have hw := wfold_len ((lows z ++ [32]).take i) ([], [])
    rw [List.length_take] at hw
    simp only [List.length_nil] at hw
    rw [htk, List.foldl_append]
    generalize ((lows z ++ [32]).take i).foldl wstep ([], []) = st at hw ⊢
    obtain ⟨ws, wd⟩ := st
    dsimp only at hw ⊢
    show tIfS _ _ _ _ [some (V.str z), some (V.ref p), some (V.str (S wd)), some (V.str (S [c]))] _
    walk_at "wp"
    have yes : isW c → (tAug 2 (tVar 3) ipAddS) { nx := fun σ' H' => ∃ v, σ' = [some (V.str z), some (V.ref p), some (V.str (S ([c].foldl wstep (ws, wd)).2)), v] ∧ H' = upd H p (HO.lst ((([c].foldl wstep (ws, wd)).1.map S).map V.str)), rt := Q }
        [some (V.str z), some (V.ref p), some (V.str (S wd)), some (V.str (S [c]))] (upd H p (HO.lst ((ws.map S).map V.str))) := fun hy => by
      walk_at "wp"
      refine p_ipAddS (sl16 (by rw [S_len, S_len]; simp; omega)) ?_
      have e : [c].foldl wstep (ws, wd) = (ws, wd ++ [c]) := wstep_yes hy
      rw [S_app, e]
      exact ⟨_, rfl, rfl⟩
    refine ifD (fun h1 => ?_) (fun h1 => ?_)
    · exact yes (.inl ((in_small c).mp h1))
    · walk_at "wp"
      refine ifD (fun h2 => ?_) (fun h2 => ?_)
      · exact yes (.inr ((in_digits c).mp h2))
      · have hno : ¬ isW c := fun w => w.elim (fun w => h1 ((in_small c).mpr w)) fun w => h2 ((in_digits c).mpr w)
        have e : [c].foldl wstep (ws, wd) = if wd ≠ [] then (ws ++ [wd], []) else (ws, wd) := wstep_no hno
        walk_at "wp"
        refine w_truS (sl16 (n := (S wd).length) (by rw [S_len]; omega)) ?_
        refine ifD (fun h3 => ?_) (fun h3 => ?_)
        · have hne : wd ≠ [] := fun q => h3 (by rw [S_len, q]; rfl)
          rw [if_pos hne] at e
          walk_at "wp"
          refine p_append upd_same (by rw [List.length_map, List.length_map, sizeLine_eq]; omega) ?_
          walk_at "wp"
          rw [e]
          refine ⟨_, by rw [← S_nil]; rfl, ?_⟩
          rw [upd_upd]
          simp
        · have hne : ¬ wd ≠ [] := fun q => h3 (by rw [S_len]; exact fun q2 => q (List.eq_nil_of_length_eq_zero q2))
          rw [if_neg hne] at e
          walk_at "wp"
          rw [e]
          exact ⟨_, rfl, rfl⟩
  · rintro σ' H' ⟨v, rfl, rfl⟩
    have hw := wfold_len (lows z ++ [32]) ([], [])
    simp only [List.length_nil] at hw
    have etk : (lows z ++ [32]).take (S (lows z ++ [32])).cps.toList.length = lows z ++ [32] := List.take_length
    rw [etk]
    walk_at "wp"
    refine ⟨p, (wsOf (lows z)).map S, rfl, SqL.of upd_same, by rw [List.length_map]; unfold wsOf; omega, fun q hq => ?_⟩
    walk_at "wp"
    refine ⟨q, _, rfl, upd_same, fun r hr => ?_⟩
    have hr1 : upd H p (HO.lst (((wsOf (lows z)).map S).map V.str)) r = none := by
      have hrq : r ≠ q := fun e => by rw [e, upd_same] at hr; cases hr
      rw [upd_ne hrq] at hr
      exact hr
    have hr0 : H r = none := by
      have hrp : r ≠ p := fun e => by rw [e, upd_same] at hr1; cases hr1
      rw [upd_ne hrp] at hr1
      exact hr1
    refine k r _ hr0 (fun b o hb => ?_) upd_same
    have h1 : (upd H p (HO.lst (((wsOf (lows z)).map S).map V.str))) b = some o := by rw [upd_ne (ne_of_none hb hp)]; exact hb
    rw [upd_ne (ne_of_none hb hr0), upd_ne (ne_of_none h1 hq)]
    exact h1
theorem inV_strs (a : Str) (ws : List Str) : inV (V.str a) (ws.map V.str) = decide (a ∈ ws) := by
  rw [Bool.eq_iff_iff, decide_eq_true_eq]
  unfold inV
  rw [List.any_eq_true]
  constructor
  · rintro ⟨x, hx, e⟩
    obtain ⟨y, hy, rfl⟩ := List.mem_map.mp hx
    have e2 : y = a := by simpa [eqV] using e
    exact e2 ▸ hy
  · intro h
    exact ⟨_, List.mem_map.mpr ⟨a, h, rfl⟩, by simp [eqV]⟩
theorem flat_strs (ws : List Str) : (ws.map V.str).all flatV = true := by
  rw [List.all_eq_true]
  intro x hx
  obtain ⟨y, _, rfl⟩ := List.mem_map.mp hx
  rfl
theorem p_notInL {K : PySem.W.Frag} {H : Hp} {Q : VK} {a : Str} {p : Addr} {ws : List Str} (h : H p = some (HO.lst (ws.map V.str))) (z : Q (V.bl (decide (a ∉ ws))) H) : rIn K true (V.str a) (V.ref p) H Q := by
  refine ⟨p, _, rfl, .inl (SqL.of h), rfl, flat_strs ws, ?_⟩
  have e : (if true = true then !inV (V.str a) (ws.map V.str) else inV (V.str a) (ws.map V.str)) = decide (a ∉ ws) := by
    rw [if_pos rfl, inV_strs]
    by_cases hm : a ∈ ws <;> simp [hm]
  rw [e]
  exact z
theorem cut_eq (z : Str) {s e : Nat} (h1 : s ≤ e) (h2 : e ≤ z.length) : cutS z (some (s : Int)) (some (e : Int)) = S ((z.cps.toList.take e).drop s) := by
  unfold cutS
  rw [HT.sIx_nat, HT.sIx_nat, Nat.min_eq_left h2, Nat.min_eq_left (Nat.le_trans h1 h2), List.drop_take]
theorem low_cut {z : Str} (ha : Ascii z) {s e : Nat} (h1 : s ≤ e) (h2 : e ≤ z.length) : Txt.lower (cutS z (some (s : Int)) (some (e : Int))) = S (((lows z).take e).drop s) := by
  rw [lower_eq (ascii_cut ha _ _), cut_eq z h1 h2]
  unfold lows
  rw [← List.map_take, ← List.map_drop]
theorem mem_S {x : List Nat} {ws : List (List Nat)} : S x ∈ ws.map S ↔ x ∈ ws := by
  rw [List.mem_map]
  exact ⟨fun ⟨y, hy, e⟩ => S_inj e ▸ hy, fun h => ⟨x, h, rfl⟩⟩
theorem pure__law_due (vs : List V) (H : Hp) (Q : VK) (E : XK) (h : sp__law_due G vs H Q E) : t__law_due G { nx := fun _ H' => Q .non H', rt := Q } (L2.start N__law_due vs) H := by
  obtain ⟨z, rfl, hz, ha, k⟩ := h
  show tSeq _ _ _ [some (V.str z), none, none, none, none, none] H
  walk_at "wp"
  refine ⟨Nat.zero_le _, fun p hp => ?_⟩
  walk_at "wp"
  refine p_lenS (sl16 (by omega)) ?_
  walk_at "wp"
  have hn : ((z.length : Int) + 1).toNat = z.length + 1 := by omega
  refine l_rng1 (fun i σ' H' => ∃ v, σ' = [some (V.str z), some (V.ref p), some (V.int (((List.range i).foldl (dstep (lows z)) ([], 0)).2 : Nat)), some (V.str "abcdefghijklmnopqrstuvwxyz0123456789"), some (V.str "ABCDEFGHIJKLMNOPQRSTUVWXYZ"), v] ∧
    H' = upd H p (HO.lst ((((List.range i).foldl (dstep (lows z)) ([], 0)).1.map S).map V.str))) (by omega) ⟨none, rfl, rfl⟩ ?_ ?_
  · rintro i σ' H' hi ⟨v, rfl, rfl⟩
    have hi : i ≤ z.length := by omega
    have hd := dfold_len (lows z) i
    rw [List.range_succ, List.foldl_append]
    generalize (List.range i).foldl (dstep (lows z)) ([], 0) = st at hd ⊢
    obtain ⟨ws, s⟩ := st
    dsimp only at hd ⊢
    show tIfS _ _ _ _ [some (V.str z), some (V.ref p), some (V.int (s : Int)), some (V.str "abcdefghijklmnopqrstuvwxyz0123456789"), some (V.str "ABCDEFGHIJKLMNOPQRSTUVWXYZ"), some (V.int (i : Int))] _
    have hl := lows_len z
    -- the word ends here
    have yes : ¬ (i < (lows z).length ∧ isW ((lows z).getD i 0)) →
        (tMid (tIfS (tAnd (tTest (tOp rGtI (tVar 5) (tVar 2))) (tTest (tOp (rIn G.K true) (tBM0 G.K "str" rLower (tSl rSlS (tVar 0) (tPart (tVar 2)) (tPart (tVar 5)))) (tVar 1)))) (tDrop (tBM G.K "list" rAppend (tVar 1) (tCons (tBM0 G.K "str" rLower (tSl rSlS (tVar 0) (tPart (tVar 2)) (tPart (tVar 5)))) tNil))) tNext)
          (tAsg (tOp rAddI (tVar 5) (tC (.int 1))) (gName 2)))
        { nx := fun σ' H' => ∃ v, σ' = [some (V.str z), some (V.ref p), some (V.int (([i].foldl (dstep (lows z)) (ws, s)).2 : Nat)), some (V.str "abcdefghijklmnopqrstuvwxyz0123456789"), some (V.str "ABCDEFGHIJKLMNOPQRSTUVWXYZ"), v] ∧
            H' = upd H p (HO.lst ((([i].foldl (dstep (lows z)) (ws, s)).1.map S).map V.str)), rt := Q }
        [some (V.str z), some (V.ref p), some (V.int (s : Int)), some (V.str "abcdefghijklmnopqrstuvwxyz0123456789"), some (V.str "ABCDEFGHIJKLMNOPQRSTUVWXYZ"), some (V.int (i : Int))] (upd H p (HO.lst ((ws.map S).map V.str))) := fun hno => by
      have e : [i].foldl (dstep (lows z)) (ws, s) = (if s < i ∧ ((lows z).take i).drop s ∉ ws then ws ++ [((lows z).take i).drop s] else ws, i + 1) := dstep_no hno
      rw [e]
      refine w_mid (fun σ' H' => σ' = [some (V.str z), some (V.ref p), some (V.int (s : Int)), some (V.str "abcdefghijklmnopqrstuvwxyz0123456789"), some (V.str "ABCDEFGHIJKLMNOPQRSTUVWXYZ"), some (V.int (i : Int))] ∧
        H' = upd H p (HO.lst (((if s < i ∧ ((lows z).take i).drop s ∉ ws then ws ++ [((lows z).take i).drop s] else ws).map S).map V.str))) ?_ ?_
      · walk_at "wp"
        refine ifD (fun h1 => ?_) (fun h1 => ?_)
        · have h1 : s < i := by omega
          walk_at "wp"
          refine p_slS (sl16 (by omega)) ?_
          walk_at "wp"
          refine p_lower (by have := cutS_length z (some (s : Int)) (some (i : Int)); omega) ?_
          rw [low_cut ha (Nat.le_of_lt h1) hi]
          walk_at "wp"
          refine p_notInL upd_same ?_
          walk_at "wp"
          refine ifD (fun h2 => ?_) (fun h2 => ?_)
          · rw [mem_S] at h2
            walk_at "wp"
            refine p_slS (sl16 (by omega)) ?_
            walk_at "wp"
            refine p_lower (by have := cutS_length z (some (s : Int)) (some (i : Int)); omega) ?_
            rw [low_cut ha (Nat.le_of_lt h1) hi]
            walk_at "wp"
            refine p_append upd_same (by rw [List.length_map, List.length_map, sizeLine_eq]; omega) ?_
            walk_at "wp"
            rw [if_pos ⟨h1, h2⟩]
            refine ⟨rfl, ?_⟩
            rw [upd_upd]
            simp
          · rw [mem_S] at h2
            walk_at "wp"
            rw [if_neg fun q => h2 q.2]
            exact ⟨rfl, rfl⟩
        · walk_at "wp"
          rw [if_neg fun q => h1 (by have := q.1; omega)]
          exact ⟨rfl, rfl⟩
      · rintro σ' H' ⟨rfl, rfl⟩
        walk_at "wp"
        exact ⟨_, rfl, rfl⟩
    walk_at "wp"
    refine p_lenS (sl16 (by omega)) ?_
    walk_at "wp"
    refine ifD (fun h1 => ?_) (fun h1 => ?_)
    · have h1 : i = z.length := by omega
      exact yes (fun q => by omega)
    · have h1 : i < z.cps.toList.length := by rw [← len_cps]; omega
      walk_at "wp"
      have hc : atI z.cps.toList ((i : Nat) : Int) = some z.cps.toList[i] := atI_nat (by simp [h1])
      refine p_ixS (sl16 (by omega)) hc ?_
      walk_at "wp"
      have eg : (lows z).getD i 0 = lo1 z.cps.toList[i] := by
        unfold lows
        rw [List.getD_eq_getElem?_getD, List.getElem?_map, List.getElem?_eq_getElem h1]
        rfl
      refine ifD (fun h2 => ?_) (fun h2 => ?_)
      · rw [in_all] at h2
        exact yes (fun q => h2 (eg ▸ q.2))
      · rw [in_all, Classical.not_not] at h2
        have e : [i].foldl (dstep (lows z)) (ws, s) = (ws, s) := dstep_yes ⟨by rw [hl, len_cps]; exact h1, by rw [eg]; exact h2⟩
        walk_at "wp"
        rw [e]
        exact ⟨_, rfl, rfl⟩
  · rintro σ' H' ⟨v, rfl, rfl⟩
    rw [hn]
    walk_at "wp"
    refine ⟨p, _, rfl, SqL.of upd_same, fun q hq => ?_⟩
    have hq0 : H q = none := by
      have hrp : q ≠ p := fun e => by rw [e, upd_same] at hq; cases hq
      rw [upd_ne hrp] at hq
      exact hq
    refine k q _ hq0 (fun b o hb => ?_) ?_
    · rw [upd_ne (ne_of_none hb hq0), upd_ne (ne_of_none hb hp)]
      exact hb
    · rw [upd_same]
      unfold duesOf dsOf
      rw [lows_len]
/-! ### the law -/
theorem dp_strs {K : PySem.W.Frag} {H : Hp} : ∀ ws : List Str, DpAll K H (ws.map V.str) (ws.map PyData.str)
  | [] => .nil
  | x :: r => .cons (.str x) (dp_strs r)
theorem eqvAll_strs : ∀ ws : List Str, PyData.eqvAll (ws.map PyData.str) (ws.map PyData.str) = true
  | [] => by simp [PyData.eqvAll]
  | x :: r => by simp [PyData.eqvAll, PyData.eqv, eqvAll_strs r]
theorem eqv_strs (ws : List Str) : PyData.eqv (.list (ws.map PyData.str)) (.list (ws.map PyData.str)) = true := by
  simp [PyData.eqv, eqvAll_strs ws]
theorem lay_strs : ∀ ws : List Str, (∀ x ∈ ws, Ascii x) → PyData.canLayAll0 (ws.map PyData.str) = true
  | [], _ => by simp [PyData.canLayAll0]
  | x :: r, h => by
    have h1 : PyData.strOk x = true := by
      unfold PyData.strOk
      rw [Array.all_eq_true']
      intro c hc
      have := h x List.mem_cons_self c (by simpa using hc)
      exact decide_eq_true (by omega)
    have h2 := lay_strs r fun y hy => h y (List.mem_cons_of_mem _ hy)
    simp [PyData.canLayAll0, PyData.canLay0, h1, h2]
theorem depth_strs : ∀ ws : List Str, PyData.depthAll (ws.map PyData.str) = 0
  | [] => by simp [PyData.depthAll]
  | x :: r => by simp [PyData.depthAll, PyData.depth, depth_strs r]
theorem shaped_strs {ws : List Str} (h : ∀ x ∈ ws, Ascii x) : SeqAt.shaped (.list (ws.map PyData.str)) = true := by
  simp [SeqAt.shaped, PyData.canLay0, PyData.depth, lay_strs ws h, depth_strs ws]
theorem wfold_ascii (l : List Nat) : ∀ st : List (List Nat) × List Nat, (∀ c ∈ l, c < 128) → (∀ x ∈ st.1, ∀ c ∈ x, c < 128) → (∀ c ∈ st.2, c < 128) → ∀ x ∈ (l.foldl wstep st).1, ∀ c ∈ x, c < 128 := by
  induction l with
  | nil => exact fun st _ h _ => h
  | cons c l ih =>
    intro st hl h1 h2
    refine ih (wstep st c) (fun d hd => hl d (List.mem_cons_of_mem _ hd)) ?_ ?_
    · unfold wstep
      split
      · exact h1
      · split
        · intro x hx
          rcases List.mem_append.mp hx with hx | hx
          · exact h1 x hx
          · rw [List.mem_singleton] at hx
            rw [hx]
            exact h2
        · exact h1
    · unfold wstep
      split
      · intro d hd
        rcases List.mem_append.mp hd with hd | hd
        · exact h2 d hd
        · rw [List.mem_singleton] at hd
          rw [hd]
          exact hl c List.mem_cons_self
      · split
        · exact fun d hd => nomatch hd
        · exact h2
theorem words_ascii {z : Str} (h : Ascii z) : ∀ x ∈ wordsOf (lows z), Ascii x := by
  intro x hx
  have hx : x ∈ addAllX [] ((wsOf (lows z)).map S) := (List.mergeSort_perm _ _).mem_iff.mp hx
  rw [mem_addAllX] at hx
  rcases hx with hx | hx
  · cases hx
  · obtain ⟨y, hy, rfl⟩ := List.mem_map.mp hx
    refine wfold_ascii (lows z ++ [32]) ([], []) (fun c hc => ?_) (fun x hx => nomatch hx) (fun c hc => nomatch hc) y hy
    rcases List.mem_append.mp hc with hc | hc
    · obtain ⟨d, hd, rfl⟩ := List.mem_map.mp hc
      have := h d hd
      unfold lo1
      split <;> omega
    · rw [List.mem_singleton] at hc
      rw [hc]
      decide
theorem p_isList {K : PySem.W.Frag} {H : Hp} {Q : VK} {p : Addr} {xs : List V} (h : H p = some (HO.lst xs)) (z : Q (V.bl true) H) : rIsi K [V.ref p, V.ty "list"] H Q :=
  ⟨_, _, _, _, _, rfl, .ty "list", .base (.lst h), kit_ty (by decide +kernel), z⟩
/-- two lists of the same texts -/
theorem p_eqLs {K : PySem.W.Frag} {H : Hp} {Q : VK} {p q : Addr} {ws : List Str} (h1 : H p = some (HO.lst (ws.map V.str))) (h2 : H q = some (HO.lst (ws.map V.str))) (ha : ∀ x ∈ ws, Ascii x) (z : Q (V.bl true) H) : rEqD K (V.ref p) (V.ref q) H Q :=
  ⟨_, _, .lst (SqL.of h1) (dp_strs ws), .lst (SqL.of h2) (dp_strs ws), shaped_strs ha, shaped_strs ha, by rw [eqv_strs]; exact z⟩
theorem p_neLs {K : PySem.W.Frag} {H : Hp} {Q : VK} {p q : Addr} {ws : List Str} (h1 : H p = some (HO.lst (ws.map V.str))) (h2 : H q = some (HO.lst (ws.map V.str))) (ha : ∀ x ∈ ws, Ascii x) (z : Q (V.bl false) H) : rNeD K (V.ref p) (V.ref q) H Q :=
  ⟨_, _, .lst (SqL.of h1) (dp_strs ws), .lst (SqL.of h2) (dp_strs ws), shaped_strs ha, shaped_strs ha, by rw [eqv_strs]; exact z⟩
/-- what the script's heap says of a later one -/
theorem same_but {H H1 H2 : Hp} {p : Addr} (s : Same H H1) (hp : H p = none) (b : But p H1 H2) : Same H H2 := fun c o h => b c o (s c o h) (ne_of_none h hp)
def two : List Str := ["anna", "bert"]
theorem two_ok : ∀ x ∈ two, x.length ≤ 20 ∧ Ascii x := by
  unfold Ascii
  decide +kernel
theorem pure_law (vs : List V) (H : Hp) (Q : VK) (E : XK) (h : sp_law G vs H Q E) : t_law G { nx := fun _ H' => Q .non H', rt := Q } (L2.start N_law vs) H := by
  obtain ⟨a, ns, rfl, hS, hlen, k⟩ := h
  show tSeq _ _ _ [some (V.ref a), none, none, none, none, none] H
  walk_at "wp"
  rw [List.length_map]
  have hj : (if (40 : Int) < (ns.length : Int) then (40 : Int) else (ns.length : Int)) ≤ ns.length ∧ 0 ≤ (if (40 : Int) < (ns.length : Int) then (40 : Int) else (ns.length : Int)) := by
    split <;> omega
  refine l_rng1 (fun i σ' H' => Same H H' ∧ ∃ v1 v2 v3 v4 v5, σ' = [some (V.ref a), v1, v2, v3, v4, v5]) (by omega) ⟨Same.refl H, _, _, _, _, _, rfl⟩ ?_ ?_
  · rintro i σ' H1 hi ⟨s1, v1, v2, v3, v4, v5, rfl⟩
    have hi : i < ns.length := by omega
    have hS1 := s1.seq hS
    walk_at "wp"
    refine p_ixL hS1 (atI_nat (v := V.int ns[i]) (by simp [hi])) ?_
    walk_at "wp"
    refine ⟨_, _, rfl, fun p d s hp => ?_⟩
    have hp0 : H p = none := s1.free hp
    have s2 : Same H (upd H1 p (HO.lst [V.int d, V.int s])) := fun b o h => by rw [upd_ne (ne_of_none h hp0)]; exact s1 b o h
    walk_at "wp"
    refine ⟨p, rfl, ⟨d, s, upd_same⟩, fun z H3 hz ha hb hst => ?_⟩
    have s3 := same_but s2 hp0 hb
    walk_at "wp"
    refine w_mid (fun σ' H' => Same H H' ∧ ∃ z' : Str, z'.length ≤ 400 ∧ Ascii z' ∧ σ' = [some (V.ref a), some (V.int (i : Int)), some (V.ref p), some (V.str z'), v4, v5]) ?_ ?_
    · walk_at "wp"
      refine draw hst (by decide) fun d s r _ _ => ?_
      have s4 : Same H (upd H3 p (HO.lst [V.int d, V.int s])) := fun b o h => by rw [upd_ne (ne_of_none h hp0)]; exact s3 b o h
      walk_at "wp"
      refine ifD (fun _ => ?_) (fun _ => ?_)
      · walk_at "wp"
        refine ⟨by simp; decide, fun l hl => ?_⟩
        walk_at "wp"
        refine ⟨p, l, two, rfl, strm_upd.but (H' := H) l hl, upd_same, by decide, by decide, two_ok, fun z' H5 hz' ha' hb' hst' => ?_⟩
        walk_at "wp"
        refine ⟨same_but (fun b o h => ?_) hp0 hb', z', hz', ha', rfl⟩
        have h2 := s4 b o h
        rw [upd_ne (ne_of_none h2 hl)]
        exact h2
      · walk_at "wp"
        exact ⟨s4, z, hz, ha, rfl⟩
    · rintro σ' H4 ⟨s4, z', hz', ha', rfl⟩
      walk_at "wp"
      refine l_rng1 (fun i' σ' H' => Same H H' ∧ ∃ u4 u5, σ' = [some (V.ref a), some (V.int (i : Int)), some (V.ref p), some (V.str z'), u4, u5]) (by decide) ⟨s4, _, _, rfl⟩ ?_ ?_
      · rintro i' σ' H5 _ ⟨s5, u4, u5, rfl⟩
        walk_at "wp"
        refine ⟨z', rfl, hz', ha', fun q H6 hq s6 h6 => ?_⟩
        have hq0 : H q = none := s5.free hq
        walk_at "wp"
        refine p_isList h6 ?_
        walk_at "wp"
        refine ⟨z', rfl, hz', ha', fun r H7 hr s7 h7 => ?_⟩
        rw [← words_due] at h7
        refine p_neLs (s7 _ _ h6) h7 (words_ascii ha') ?_
        walk_at "wp"
        refine ⟨tyL (s7 _ _ h6), ?_⟩
        walk_at "wp"
        refine p_append (s7 _ _ h6) ?_ ?_
        · rw [List.length_map, sizeLine_eq]
          have e1 : (wordsOf (lows z')).length = (addAllX [] ((wsOf (lows z')).map S)).length := by unfold wordsOf; rw [List.length_mergeSort]
          have e2 := addAllX_len ((wsOf (lows z')).map S) []
          have e3 := (wfold_len (lows z' ++ [32]) ([], [])).1
          rw [List.length_map] at e2
          rw [List.length_append, lows_len] at e3
          simp only [List.length_nil, List.length_singleton] at e2 e3
          unfold wsOf at e1 e2
          omega
        · refine ⟨fun b o h => ?_, _, _, rfl⟩
          rw [upd_ne (ne_of_none h hq0)]
          exact s7 b o (s6 b o (s5 b o h))
      · rintro σ' H5 ⟨s5, u4, u5, rfl⟩
        exact ⟨s5, _, _, _, _, _, rfl⟩
  · rintro σ' H1 ⟨s1, v1, v2, v3, v4, v5, rfl⟩
    have el1 : lows "" = [] := by decide +kernel
    have el2 : lows "A-a" = [97, 45, 97] := by decide +kernel
    walk_at "wp"
    refine ⟨"", rfl, by decide +kernel, ascii_empty, fun p H2 hp s2 h2 => ?_⟩
    rw [el1, words_empty] at h2
    walk_at "wp"
    refine ⟨Nat.zero_le _, fun q hq => ?_⟩
    refine p_eqLs (ws := []) (by rw [upd_ne (ne_of_none h2 hq)]; exact h2) upd_same (fun x hx => nomatch hx) ?_
    walk_at "wp"
    refine ⟨"A-a", rfl, by decide +kernel, by unfold Ascii; decide +kernel, fun p2 H3 hp2 s3 h3 => ?_⟩
    rw [el2, words_Aa] at h3
    walk_at "wp"
    refine ⟨by simp; decide, fun q2 hq2 => ?_⟩
    refine p_eqLs (ws := [S [97]]) (by rw [upd_ne (ne_of_none h3 hq2)]; exact h3) upd_same (by unfold Ascii; decide +kernel) ?_
    exact k _
end
section
/-! the row part of k57, printed by genrow.py -/
local macro_rules | `(tactic| walk_at "sc") => `(tactic| exact ⟨rfl, rfl, rfl, by decide +kernel, rfl, by decide +kernel, by decide +kernel⟩)
def topS (i : Nat) : Stmt := PySem.Challenge.pw_lettersonce_k57_words_of_texts.main.body.getD i (.Pass ⟨0, 0, 0, 0⟩)
abbrev FnP (K : PySem.W.Frag) (x qual : Str) (st : Stmt) (f : Addr) (fd : FuncData) : Prop := FunD K x qual (defArgs st) (defBody st) (defScope st) [] [] f fd
/-- the function object at an address -/
def fdOf (K : PySem.W.Frag) (f : Addr) : FuncData := match K.lookup f with
  | some ⟨_, _, .func fd, _⟩ => fd
  | _ => default
theorem fd_at {K : PySem.W.Frag} {x qual : Str} {pa : Arguments} {bd : List Stmt} {sc : Scope} {dv : List V} {kw : List (Str × V)} {f : Addr} {fd : FuncData} (F : FunD K x qual pa bd sc dv kw f fd) : FunD K x qual pa bd sc dv kw f (fdOf K f) := by
  obtain ⟨oc, od, dV, kV, doc, pm, an, cdv, ct, osl, e, lk, r⟩ := F.ex
  have e2 : fdOf K f = fd := by
    unfold fdOf
    rw [lk]
  rw [e2]
  exact F
abbrev s_words_of : Stmt := (topS 3)
def d_words_of : He.DefD := ⟨("words_of", none), "words_of", "words_of", defArgs s_words_of, defBody s_words_of, defScope s_words_of, [], []⟩
abbrev s__law_stream : Stmt := (topS 5)
def d__law_stream : He.DefD := ⟨("_law_stream", none), "_law_stream", "_law_stream", defArgs s__law_stream, defBody s__law_stream, defScope s__law_stream, [], []⟩
abbrev s__law_next : Stmt := (topS 6)
def d__law_next : He.DefD := ⟨("_law_next", none), "_law_next", "_law_next", defArgs s__law_next, defBody s__law_next, defScope s__law_next, [], []⟩
abbrev s__law_due : Stmt := (topS 11)
def d__law_due : He.DefD := ⟨("_law_due", none), "_law_due", "_law_due", defArgs s__law_due, defBody s__law_due, defScope s__law_due, [], []⟩
abbrev s__law_word : Stmt := (topS 8)
def d__law_word : He.DefD := ⟨("_law_word", none), "_law_word", "_law_word", defArgs s__law_word, defBody s__law_word, defScope s__law_word, [], []⟩
abbrev s__law_any : Stmt := (topS 10)
def d__law_any : He.DefD := ⟨("_law_any", none), "_law_any", "_law_any", defArgs s__law_any, defBody s__law_any, defScope s__law_any, [], []⟩
abbrev s__law_text : Stmt := (topS 9)
def d__law_text : He.DefD := ⟨("_law_text", none), "_law_text", "_law_text", defArgs s__law_text, defBody s__law_text, defScope s__law_text, [], []⟩
abbrev s_law : Stmt := (topS 12)
def d_law : He.DefD := ⟨("law", none), "law", "law", defArgs s_law, defBody s_law, defScope s_law, [], []⟩
def fnL_0 : List He.DefD := [d_words_of, d__law_stream, d__law_next, d__law_due, d__law_word, d__law_any, d__law_text, d_law]
def fnL : List He.DefD := (fnL_0 : List He.DefD)
def faL_0 : List He.Fa := [.glo "words_of", .free "set", .free "sorted", .str "LETTERS" "abcdefghijklmnopqrstuvwxyz", .str "DIGITS" "0123456789", .glo "_law_stream", .free "int", .glo "_law_next", .glo "_law_due", .free "len", .free "range", .glo "_law_word", .glo "_law_any", .glo "_law_text", .glo "law", .free "isinstance", .free "list", .free "min"]
def faL : List He.Fa := (faL_0 : List He.Fa)
structure Wd (K : PySem.W.Frag) (mg : Str → Option Value) : Prop where
  hp : ∃ h : Heap, K.In h ∧ h.Ns mainGlobals mg
  c : He.SaysD faL fnL K
section
variable {P : Program} {w : World} {K : PySem.W.Frag} {mg : Str → Option Value} {base : Heap}
theorem f_int (W : Wd K mg) : mg "int" = none := let ⟨_, X, G⟩ := W.hp; He.free_ok X G (W.c.fact 6 (f := .free "int") rfl)
theorem f_isinstance (W : Wd K mg) : mg "isinstance" = none := let ⟨_, X, G⟩ := W.hp; He.free_ok X G (W.c.fact 15 (f := .free "isinstance") rfl)
theorem f_len (W : Wd K mg) : mg "len" = none := let ⟨_, X, G⟩ := W.hp; He.free_ok X G (W.c.fact 9 (f := .free "len") rfl)
theorem f_list (W : Wd K mg) : mg "list" = none := let ⟨_, X, G⟩ := W.hp; He.free_ok X G (W.c.fact 16 (f := .free "list") rfl)
theorem f_min (W : Wd K mg) : mg "min" = none := let ⟨_, X, G⟩ := W.hp; He.free_ok X G (W.c.fact 17 (f := .free "min") rfl)
theorem f_range (W : Wd K mg) : mg "range" = none := let ⟨_, X, G⟩ := W.hp; He.free_ok X G (W.c.fact 10 (f := .free "range") rfl)
theorem f_set (W : Wd K mg) : mg "set" = none := let ⟨_, X, G⟩ := W.hp; He.free_ok X G (W.c.fact 1 (f := .free "set") rfl)
theorem f_sorted (W : Wd K mg) : mg "sorted" = none := let ⟨_, X, G⟩ := W.hp; He.free_ok X G (W.c.fact 2 (f := .free "sorted") rfl)
theorem g_DIGITS (W : Wd K mg) : ∃ t, mg "DIGITS" = some (.str "0123456789" t) := let ⟨_, X, G⟩ := W.hp; He.str_ok X G (W.c.fact 4 (f := .str "DIGITS" "0123456789") rfl)
theorem g_LETTERS (W : Wd K mg) : ∃ t, mg "LETTERS" = some (.str "abcdefghijklmnopqrstuvwxyz" t) := let ⟨_, X, G⟩ := W.hp; He.str_ok X G (W.c.fact 3 (f := .str "LETTERS" "abcdefghijklmnopqrstuvwxyz") rfl)
theorem m_words_of (W : Wd K mg) : mg "words_of" = some (.ref (He.fAd K ("words_of", none))) := let ⟨_, X, G⟩ := W.hp; He.glo_ok X G (W.c.fact 0 (f := .glo "words_of") rfl)
theorem F_words_of (W : Wd K mg) : FnP K "words_of" "words_of" s_words_of (He.fAd K ("words_of", none)) (fdOf K (He.fAd K ("words_of", none))) := let ⟨_, F⟩ := W.c.def_ 0 (d := d_words_of) rfl; fd_at F
theorem b_words_of (W : Wd K mg) : Binds K (fdOf K (He.fAd K ("words_of", none))) ["text"] [] := (F_words_of W).bindsN fun _ _ _ _ _ _ us hl => match us, hl with | [_], _ => rfl
theorem sc_words_of : FnScope N_words_of ["text"] (defScope s_words_of) := by walk_at "sc"
theorem ok_words_of (W : Wd K mg) : FnOk P w K mg base CX0 1 (He.fAd K ("words_of", none)) (fdOf K (He.fAd K ("words_of", none))) ["text"] (sp_words_of ⟨K, P, w⟩) := by
  have f_set := f_set W
  have f_sorted := f_sorted W
  obtain ⟨_, g_DIGITS⟩ := g_DIGITS W
  obtain ⟨_, g_LETTERS⟩ := g_LETTERS W
  refine (F_words_of W).ok sc_words_of (fun vs H Q E h => by repeat (first | (obtain ⟨e, _⟩ := h; subst e; exact rfl) | obtain ⟨_, h⟩ := h)) (fun cdv A outer s H vs Q E hr h => ?_)
  refine ⟨t_words_of ⟨K, P, w⟩, PSs.nox ?_, pure_words_of vs H Q E h⟩
  exact (pss_cons (ps_set (i := 1) sc_words_of.nd rfl (by first | exact Or.inl rfl | exact Or.inr rfl) (pe_lst pa_nil))
      (pss_cons (ps_set (i := 2) sc_words_of.nd rfl (by first | exact Or.inl rfl | exact Or.inr rfl) pe_str)
      (pss_cons (ps_for PassesOwn.never rfl (pi_str (pe_op op_add_str (pe_bm0 PySem.F.plainAttrs_str PySem.F.slot_str_lower PySem.F.type_str_lower mt_lower (pv 0)) pe_str)) (pg_name (i := 3) sc_words_of.nd rfl (by first | exact Or.inl rfl | exact Or.inr rfl)) (pss_one (ps_if (PW.pt (pw_or (pt_cmpR op_in_sign (pv 3) (pe_glob rfl g_LETTERS ⟨_, rfl⟩) (by rfl)) (pw_or1 (pt_cmpR op_in_sign (pv 3) (pe_glob rfl g_DIGITS ⟨_, rfl⟩) (by rfl))))) (pss_one (ps_aug (i := 2) sc_words_of.nd rfl (by first | exact Or.inl rfl | exact Or.inr rfl) (pv 3) ip_addS)) (pss_one (ps_if (pt_truth (pv 2) (by intro _; rfl)) (pss_cons (ps_expr (pe_bm PySem.F.plainAttrs_list PySem.F.slot_list_append PySem.F.type_list_append mt_append (pv 1) (pa_cons (pv 2) pa_nil)))
      (pss_one (ps_set (i := 2) sc_words_of.nd rfl (by first | exact Or.inl rfl | exact Or.inr rfl) pe_str))) pss_nil)))))
      (pss_one (ps_ret (pe_callB (cr_sortedSetS rfl hr.units) (by rfl) f_sorted boot_sorted (pa_cons (pe_callTy (cr_setOfS rfl) (by rfl) f_set boot_set (pa_cons (pv 1) pa_nil)) pa_nil)))))))
theorem m__law_stream (W : Wd K mg) : mg "_law_stream" = some (.ref (He.fAd K ("_law_stream", none))) := let ⟨_, X, G⟩ := W.hp; He.glo_ok X G (W.c.fact 5 (f := .glo "_law_stream") rfl)
theorem F__law_stream (W : Wd K mg) : FnP K "_law_stream" "_law_stream" s__law_stream (He.fAd K ("_law_stream", none)) (fdOf K (He.fAd K ("_law_stream", none))) := let ⟨_, F⟩ := W.c.def_ 1 (d := d__law_stream) rfl; fd_at F
theorem b__law_stream (W : Wd K mg) : Binds K (fdOf K (He.fAd K ("_law_stream", none))) ["_law_cell", "_law_k"] [] := (F__law_stream W).bindsN fun _ _ _ _ _ _ us hl => match us, hl with | [_, _], _ => rfl
theorem sc__law_stream : FnScope N__law_stream ["_law_cell", "_law_k"] (defScope s__law_stream) := by walk_at "sc"
theorem ok__law_stream (W : Wd K mg) : FnOk P w K mg base CX0 1 (He.fAd K ("_law_stream", none)) (fdOf K (He.fAd K ("_law_stream", none))) ["_law_cell", "_law_k"] (sp__law_stream ⟨K, P, w⟩) := by
  have f_int := f_int W
  refine (F__law_stream W).ok sc__law_stream (fun vs H Q E h => by repeat (first | (obtain ⟨e, _⟩ := h; subst e; exact rfl) | obtain ⟨_, h⟩ := h)) (fun cdv A outer s H vs Q E hr h => ?_)
  refine ⟨t__law_stream ⟨K, P, w⟩, PSs.nox ?_, pure__law_stream vs H Q E h⟩
  exact (pss_cons (ps_set (i := 2) sc__law_stream.nd rfl (by first | exact Or.inl rfl | exact Or.inr rfl) pe_int)
      (pss_mid (ps_if (pt_cmpR op_ge (pv 0) (pe_op op_pow pe_int pe_int) (nomark _)) (pss_one (ps_set (i := 2) sc__law_stream.nd rfl (by first | exact Or.inl rfl | exact Or.inr rfl) (pv 0))) pss_nil)
      (pss_one (ps_ret (pe_lst (pa_cons (pv 2) (pa_cons (pe_op op_mod (pe_callTy call_int1 (by rfl) f_int boot_int (pa_cons (pe_op op_add (pe_op op_add (pe_op op_mul (pv 0) pe_int) (pe_op op_mul (pv 1) pe_int)) pe_int) pa_nil)) pe_int) pa_nil)))))))
theorem m__law_next (W : Wd K mg) : mg "_law_next" = some (.ref (He.fAd K ("_law_next", none))) := let ⟨_, X, G⟩ := W.hp; He.glo_ok X G (W.c.fact 7 (f := .glo "_law_next") rfl)
theorem F__law_next (W : Wd K mg) : FnP K "_law_next" "_law_next" s__law_next (He.fAd K ("_law_next", none)) (fdOf K (He.fAd K ("_law_next", none))) := let ⟨_, F⟩ := W.c.def_ 2 (d := d__law_next) rfl; fd_at F
theorem b__law_next (W : Wd K mg) : Binds K (fdOf K (He.fAd K ("_law_next", none))) ["_law_stream_here", "_law_size"] [] := (F__law_next W).bindsN fun _ _ _ _ _ _ us hl => match us, hl with | [_, _], _ => rfl
theorem sc__law_next : FnScope N__law_next ["_law_stream_here", "_law_size"] (defScope s__law_next) := by walk_at "sc"
theorem ok__law_next (W : Wd K mg) : FnOk P w K mg base CX0 1 (He.fAd K ("_law_next", none)) (fdOf K (He.fAd K ("_law_next", none))) ["_law_stream_here", "_law_size"] (sp__law_next ⟨K, P, w⟩) := by
  have f_int := f_int W
  refine (F__law_next W).ok sc__law_next (fun vs H Q E h => by repeat (first | (obtain ⟨e, _⟩ := h; subst e; exact rfl) | obtain ⟨_, h⟩ := h)) (fun cdv A outer s H vs Q E hr h => ?_)
  refine ⟨t__law_next ⟨K, P, w⟩, PSs.nox ?_, pure__law_next vs H Q E h⟩
  exact (pss_cons (ps_if (pt_cmpR op_gt (pe_ix ix_list (pv 0) pe_int (fun _ _ => rfl)) pe_int (nomark _)) (pss_cons (ps_set (i := 2) sc__law_next.nd rfl (by first | exact Or.inl rfl | exact Or.inr rfl) (pe_op op_mod (pe_callTy call_int1 (by rfl) f_int boot_int (pa_cons (pe_ix ix_list (pv 0) pe_int (fun _ _ => rfl)) pa_nil)) (pv 1)))
      (pss_cons (ps_asg (pe_op op_fdivW (pe_ix ix_list (pv 0) pe_int (fun _ _ => rfl)) (pv 1)) (pg_sub (pv 0) pe_int set_list))
      (pss_one (ps_ret (pv 2))))) pss_nil)
      (pss_cons (ps_asg (pe_op op_mod (pe_callTy call_int1 (by rfl) f_int boot_int (pa_cons (pe_op op_add (pe_op op_mul (pe_ix ix_list (pv 0) pe_int (fun _ _ => rfl)) pe_int) pe_int) pa_nil)) pe_int) (pg_sub (pv 0) pe_int set_list))
      (pss_one (ps_ret (pe_op op_mod (pe_callTy call_int1 (by rfl) f_int boot_int (pa_cons (pe_op op_fdivW (pe_op op_mod (pe_callTy call_int1 (by rfl) f_int boot_int (pa_cons (pe_op op_add (pe_op op_mul (pe_ix ix_list (pv 0) pe_int (fun _ _ => rfl)) pe_int) pe_int) pa_nil)) pe_int) pe_int) pa_nil)) (pv 1))))))
theorem m__law_due (W : Wd K mg) : mg "_law_due" = some (.ref (He.fAd K ("_law_due", none))) := let ⟨_, X, G⟩ := W.hp; He.glo_ok X G (W.c.fact 8 (f := .glo "_law_due") rfl)
theorem F__law_due (W : Wd K mg) : FnP K "_law_due" "_law_due" s__law_due (He.fAd K ("_law_due", none)) (fdOf K (He.fAd K ("_law_due", none))) := let ⟨_, F⟩ := W.c.def_ 3 (d := d__law_due) rfl; fd_at F
theorem b__law_due (W : Wd K mg) : Binds K (fdOf K (He.fAd K ("_law_due", none))) ["_law_text_here"] [] := (F__law_due W).bindsN fun _ _ _ _ _ _ us hl => match us, hl with | [_], _ => rfl
theorem sc__law_due : FnScope N__law_due ["_law_text_here"] (defScope s__law_due) := by walk_at "sc"
theorem ok__law_due (W : Wd K mg) : FnOk P w K mg base CX0 1 (He.fAd K ("_law_due", none)) (fdOf K (He.fAd K ("_law_due", none))) ["_law_text_here"] (sp__law_due ⟨K, P, w⟩) := by
  have f_len := f_len W
  have f_range := f_range W
  have f_sorted := f_sorted W
  refine (F__law_due W).ok sc__law_due (fun vs H Q E h => by repeat (first | (obtain ⟨e, _⟩ := h; subst e; exact rfl) | obtain ⟨_, h⟩ := h)) (fun cdv A outer s H vs Q E hr h => ?_)
  refine ⟨t__law_due ⟨K, P, w⟩, PSs.nox ?_, pure__law_due vs H Q E h⟩
  exact (pss_cons (ps_set (i := 1) sc__law_due.nd rfl (by first | exact Or.inl rfl | exact Or.inr rfl) (pe_lst pa_nil))
      (pss_cons (ps_set (i := 2) sc__law_due.nd rfl (by first | exact Or.inl rfl | exact Or.inr rfl) pe_int)
      (pss_cons (ps_set (i := 3) sc__law_due.nd rfl (by first | exact Or.inl rfl | exact Or.inr rfl) pe_str)
      (pss_cons (ps_set (i := 4) sc__law_due.nd rfl (by first | exact Or.inl rfl | exact Or.inr rfl) pe_str)
      (pss_cons (ps_for PassesOwn.never rfl (pi_range1 rfl f_range (pa_cons (pe_op op_add (pe_callB call_len (by rfl) f_len boot_len (pa_cons (pv 0) pa_nil)) pe_int) pa_nil)) (pg_name (i := 5) sc__law_due.nd rfl (by first | exact Or.inl rfl | exact Or.inr rfl)) (pss_one (ps_if (PW.pt (pw_or (pt_cmpR op_eq (pv 5) (pe_callB call_len (by rfl) f_len boot_len (pa_cons (pv 0) pa_nil)) (nomark _)) (pw_or1 (pt_cmpR op_notIn_sign (pe_ix ix_str (pv 0) (pv 5) (fun _ _ => rfl)) (pe_op op_add_str (pv 3) (pv 4)) (by rfl))))) (pss_mid (ps_if (PW.pt (pw_and (pt_cmpR op_gt (pv 5) (pv 2) (nomark _)) (pw_and1 (pt_cmpR op_notIn_seq (pe_bm0 PySem.F.plainAttrs_str PySem.F.slot_str_lower PySem.F.type_str_lower mt_lower (pe_slice sl_str (pv 0) (po_some (pv 2)) (po_some (pv 5)))) (pv 1) (by rfl))))) (pss_one (ps_expr (pe_bm PySem.F.plainAttrs_list PySem.F.slot_list_append PySem.F.type_list_append mt_append (pv 1) (pa_cons (pe_bm0 PySem.F.plainAttrs_str PySem.F.slot_str_lower PySem.F.type_str_lower mt_lower (pe_slice sl_str (pv 0) (po_some (pv 2)) (po_some (pv 5)))) pa_nil)))) pss_nil)
      (pss_one (ps_set (i := 2) sc__law_due.nd rfl (by first | exact Or.inl rfl | exact Or.inr rfl) (pe_op op_add (pv 5) pe_int)))) pss_nil)))
      (pss_one (ps_ret (pe_callB (cr_sortedStr hr.units) (by rfl) f_sorted boot_sorted (pa_cons (pv 1) pa_nil)))))))))
theorem m__law_word (W : Wd K mg) : mg "_law_word" = some (.ref (He.fAd K ("_law_word", none))) := let ⟨_, X, G⟩ := W.hp; He.glo_ok X G (W.c.fact 11 (f := .glo "_law_word") rfl)
theorem F__law_word (W : Wd K mg) : FnP K "_law_word" "_law_word" s__law_word (He.fAd K ("_law_word", none)) (fdOf K (He.fAd K ("_law_word", none))) := let ⟨_, F⟩ := W.c.def_ 4 (d := d__law_word) rfl; fd_at F
theorem b__law_word (W : Wd K mg) : Binds K (fdOf K (He.fAd K ("_law_word", none))) ["_law_stream_here"] [] := (F__law_word W).bindsN fun _ _ _ _ _ _ us hl => match us, hl with | [_], _ => rfl
theorem sc__law_word : FnScope N__law_word ["_law_stream_here"] (defScope s__law_word) := by walk_at "sc"
theorem ok__law_word (W : Wd K mg) : FnOk P w K mg base CX0 2 (He.fAd K ("_law_word", none)) (fdOf K (He.fAd K ("_law_word", none))) ["_law_stream_here"] (sp__law_word ⟨K, P, w⟩) := by
  have G__law_next := ok__law_next (P := P) (w := w) (base := base) W
  have m__law_next := m__law_next W
  have b__law_next := b__law_next W
  have k__law_next := (F__law_next W).kp
  have f_range := f_range W
  refine (F__law_word W).ok sc__law_word (fun vs H Q E h => by repeat (first | (obtain ⟨e, _⟩ := h; subst e; exact rfl) | obtain ⟨_, h⟩ := h)) (fun cdv A outer s H vs Q E hr h => ?_)
  have hr__law_next : Room 1 _ := hr.mono (by decide)
  refine ⟨t__law_word ⟨K, P, w⟩, PSs.nox ?_, pure__law_word vs H Q E h⟩
  exact (pss_cons (ps_set (i := 1) sc__law_word.nd rfl (by first | exact Or.inl rfl | exact Or.inr rfl) pe_str)
      (pss_cons (ps_set (i := 2) sc__law_word.nd rfl (by first | exact Or.inl rfl | exact Or.inr rfl) pe_str)
      (pss_cons (ps_for PassesOwn.never rfl (pi_range1 rfl f_range (pa_cons (pe_op op_add pe_int (pe_call G__law_next hr__law_next rfl m__law_next k__law_next b__law_next .nil pass0 (pa_cons (pv 0) (pa_cons pe_int pa_nil)))) pa_nil)) (pg_name (i := 3) sc__law_word.nd rfl (by first | exact Or.inl rfl | exact Or.inr rfl)) (pss_one (ps_set (i := 1) sc__law_word.nd rfl (by first | exact Or.inl rfl | exact Or.inr rfl) (pe_op op_add_str (pv 1) (pe_ix ix_str (pv 2) (pe_call G__law_next hr__law_next rfl m__law_next k__law_next b__law_next .nil pass0 (pa_cons (pv 0) (pa_cons pe_int pa_nil))) (fun _ _ => rfl))))))
      (pss_one (ps_ret (pv 1))))))
theorem m__law_any (W : Wd K mg) : mg "_law_any" = some (.ref (He.fAd K ("_law_any", none))) := let ⟨_, X, G⟩ := W.hp; He.glo_ok X G (W.c.fact 12 (f := .glo "_law_any") rfl)
theorem F__law_any (W : Wd K mg) : FnP K "_law_any" "_law_any" s__law_any (He.fAd K ("_law_any", none)) (fdOf K (He.fAd K ("_law_any", none))) := let ⟨_, F⟩ := W.c.def_ 5 (d := d__law_any) rfl; fd_at F
theorem b__law_any (W : Wd K mg) : Binds K (fdOf K (He.fAd K ("_law_any", none))) ["_law_stream_here"] [] := (F__law_any W).bindsN fun _ _ _ _ _ _ us hl => match us, hl with | [_], _ => rfl
theorem sc__law_any : FnScope N__law_any ["_law_stream_here"] (defScope s__law_any) := by walk_at "sc"
theorem ok__law_any (W : Wd K mg) : FnOk P w K mg base CX0 2 (He.fAd K ("_law_any", none)) (fdOf K (He.fAd K ("_law_any", none))) ["_law_stream_here"] (sp__law_any ⟨K, P, w⟩) := by
  have G__law_next := ok__law_next (P := P) (w := w) (base := base) W
  have m__law_next := m__law_next W
  have b__law_next := b__law_next W
  have k__law_next := (F__law_next W).kp
  have f_range := f_range W
  refine (F__law_any W).ok sc__law_any (fun vs H Q E h => by repeat (first | (obtain ⟨e, _⟩ := h; subst e; exact rfl) | obtain ⟨_, h⟩ := h)) (fun cdv A outer s H vs Q E hr h => ?_)
  have hr__law_next : Room 1 _ := hr.mono (by decide)
  refine ⟨t__law_any ⟨K, P, w⟩, PSs.nox ?_, pure__law_any vs H Q E h⟩
  exact (pss_cons (ps_set (i := 1) sc__law_any.nd rfl (by first | exact Or.inl rfl | exact Or.inr rfl) pe_str)
      (pss_cons (ps_set (i := 2) sc__law_any.nd rfl (by first | exact Or.inl rfl | exact Or.inr rfl) pe_str)
      (pss_cons (ps_for PassesOwn.never rfl (pi_range1 rfl f_range (pa_cons (pe_call G__law_next hr__law_next rfl m__law_next k__law_next b__law_next .nil pass0 (pa_cons (pv 0) (pa_cons pe_int pa_nil))) pa_nil)) (pg_name (i := 3) sc__law_any.nd rfl (by first | exact Or.inl rfl | exact Or.inr rfl)) (pss_one (ps_set (i := 2) sc__law_any.nd rfl (by first | exact Or.inl rfl | exact Or.inr rfl) (pe_op op_add_str (pv 2) (pe_ix ix_str (pv 1) (pe_call G__law_next hr__law_next rfl m__law_next k__law_next b__law_next .nil pass0 (pa_cons (pv 0) (pa_cons pe_int pa_nil))) (fun _ _ => rfl))))))
      (pss_one (ps_ret (pe_slice sl_str (pe_op op_mulS (pv 2) (pe_ix ix_tup (pe_tup (pa_cons pe_int (pa_cons pe_int (pa_cons pe_int (pa_cons pe_int pa_nil))))) (pe_call G__law_next hr__law_next rfl m__law_next k__law_next b__law_next .nil pass0 (pa_cons (pv 0) (pa_cons pe_int pa_nil))) (fun _ _ => rfl))) po_none (po_some pe_int)))))))
theorem m__law_text (W : Wd K mg) : mg "_law_text" = some (.ref (He.fAd K ("_law_text", none))) := let ⟨_, X, G⟩ := W.hp; He.glo_ok X G (W.c.fact 13 (f := .glo "_law_text") rfl)
theorem F__law_text (W : Wd K mg) : FnP K "_law_text" "_law_text" s__law_text (He.fAd K ("_law_text", none)) (fdOf K (He.fAd K ("_law_text", none))) := let ⟨_, F⟩ := W.c.def_ 6 (d := d__law_text) rfl; fd_at F
theorem b__law_text (W : Wd K mg) : Binds K (fdOf K (He.fAd K ("_law_text", none))) ["_law_people_here", "_law_stream_here"] [] := (F__law_text W).bindsN fun _ _ _ _ _ _ us hl => match us, hl with | [_, _], _ => rfl
theorem sc__law_text : FnScope N__law_text ["_law_people_here", "_law_stream_here"] (defScope s__law_text) := by walk_at "sc"
theorem ok__law_text (W : Wd K mg) : FnOk P w K mg base CX0 3 (He.fAd K ("_law_text", none)) (fdOf K (He.fAd K ("_law_text", none))) ["_law_people_here", "_law_stream_here"] (sp__law_text ⟨K, P, w⟩) := by
  have G__law_next := ok__law_next (P := P) (w := w) (base := base) W
  have m__law_next := m__law_next W
  have b__law_next := b__law_next W
  have k__law_next := (F__law_next W).kp
  have G__law_word := ok__law_word (P := P) (w := w) (base := base) W
  have m__law_word := m__law_word W
  have b__law_word := b__law_word W
  have k__law_word := (F__law_word W).kp
  have f_len := f_len W
  have f_range := f_range W
  refine (F__law_text W).ok sc__law_text (fun vs H Q E h => by repeat (first | (obtain ⟨e, _⟩ := h; subst e; exact rfl) | obtain ⟨_, h⟩ := h)) (fun cdv A outer s H vs Q E hr h => ?_)
  have hr__law_next : Room 1 _ := hr.mono (by decide)
  have hr__law_word : Room 2 _ := hr.mono (by decide)
  refine ⟨t__law_text ⟨K, P, w⟩, PSs.nox ?_, pure__law_text vs H Q E h⟩
  exact (pss_cons (ps_set (i := 2) sc__law_text.nd rfl (by first | exact Or.inl rfl | exact Or.inr rfl) (pe_lst pa_nil))
      (pss_cons (ps_for PassesOwn.never rfl (pi_range1 rfl f_range (pa_cons (pe_op op_add pe_int (pe_call G__law_next hr__law_next rfl m__law_next k__law_next b__law_next .nil pass0 (pa_cons (pv 1) (pa_cons pe_int pa_nil)))) pa_nil)) (pg_name (i := 3) sc__law_text.nd rfl (by first | exact Or.inl rfl | exact Or.inr rfl)) (pss_cons (ps_set (i := 4) sc__law_text.nd rfl (by first | exact Or.inl rfl | exact Or.inr rfl) (pe_call G__law_next hr__law_next rfl m__law_next k__law_next b__law_next .nil pass0 (pa_cons (pv 1) (pa_cons pe_int pa_nil))))
      (pss_mid (ps_if (pt_cmpR op_eq (pv 4) pe_int (nomark _)) (pss_one (ps_expr (pe_bm PySem.F.plainAttrs_list PySem.F.slot_list_append PySem.F.type_list_append mt_append (pv 2) (pa_cons (pe_op op_add_str pe_str (pe_ix ix_list (pv 0) (pe_call G__law_next hr__law_next rfl m__law_next k__law_next b__law_next .nil pass0 (pa_cons (pv 1) (pa_cons (pe_callB call_len (by rfl) f_len boot_len (pa_cons (pv 0) pa_nil)) pa_nil))) (fun _ _ => rfl))) pa_nil)))) (pss_one (ps_if (pt_cmpR op_eq (pv 4) pe_int (nomark _)) (pss_one (ps_expr (pe_bm PySem.F.plainAttrs_list PySem.F.slot_list_append PySem.F.type_list_append mt_append (pv 2) (pa_cons (pe_ix ix_tup (pe_tup (pa_cons pe_str (pa_cons pe_str (pa_cons pe_str (pa_cons pe_str (pa_cons pe_str (pa_cons pe_str pa_nil))))))) (pe_call G__law_next hr__law_next rfl m__law_next k__law_next b__law_next .nil pass0 (pa_cons (pv 1) (pa_cons pe_int pa_nil))) (fun _ _ => rfl)) pa_nil)))) (pss_one (ps_expr (pe_bm PySem.F.plainAttrs_list PySem.F.slot_list_append PySem.F.type_list_append mt_append (pv 2) (pa_cons (pe_call G__law_word hr__law_word rfl m__law_word k__law_word b__law_word .nil pass0 (pa_cons (pv 1) pa_nil)) pa_nil)))))))
      (pss_one (ps_expr (pe_bm PySem.F.plainAttrs_list PySem.F.slot_list_append PySem.F.type_list_append mt_append (pv 2) (pa_cons (pe_ix ix_tup (pe_tup (pa_cons pe_str (pa_cons pe_str (pa_cons pe_str (pa_cons pe_str (pa_cons pe_str (pa_cons pe_str (pa_cons pe_str (pa_cons pe_str (pa_cons pe_str (pa_cons pe_str (pa_cons pe_str pa_nil)))))))))))) (pe_call G__law_next hr__law_next rfl m__law_next k__law_next b__law_next .nil pass0 (pa_cons (pv 1) (pa_cons pe_int pa_nil))) (fun _ _ => rfl)) pa_nil)))))))
      (pss_one (ps_ret (pe_slice sl_str (pe_op op_mulS (pe_bm PySem.F.plainAttrs_str PySem.F.slot_str_join PySem.F.type_str_join mt_join pe_str (pa_cons (pv 2) pa_nil)) (pe_ix ix_tup (pe_tup (pa_cons pe_int (pa_cons pe_int (pa_cons pe_int (pa_cons pe_int (pa_cons pe_int (pa_cons pe_int (pa_cons pe_int (pa_cons pe_int pa_nil))))))))) (pe_call G__law_next hr__law_next rfl m__law_next k__law_next b__law_next .nil pass0 (pa_cons (pv 1) (pa_cons pe_int pa_nil))) (fun _ _ => rfl))) po_none (po_some pe_int))))))
theorem m_law (W : Wd K mg) : mg "law" = some (.ref (He.fAd K ("law", none))) := let ⟨_, X, G⟩ := W.hp; He.glo_ok X G (W.c.fact 14 (f := .glo "law") rfl)
theorem F_law (W : Wd K mg) : FnP K "law" "law" s_law (He.fAd K ("law", none)) (fdOf K (He.fAd K ("law", none))) := let ⟨_, F⟩ := W.c.def_ 7 (d := d_law) rfl; fd_at F
theorem b_law (W : Wd K mg) : Binds K (fdOf K (He.fAd K ("law", none))) ["_law_script"] [] := (F_law W).bindsN fun _ _ _ _ _ _ us hl => match us, hl with | [_], _ => rfl
theorem sc_law : FnScope N_law ["_law_script"] (defScope s_law) := by walk_at "sc"
theorem ok_law (W : Wd K mg) : FnOk P w K mg base CX0 4 (He.fAd K ("law", none)) (fdOf K (He.fAd K ("law", none))) ["_law_script"] (sp_law ⟨K, P, w⟩) := by
  have G__law_stream := ok__law_stream (P := P) (w := w) (base := base) W
  have m__law_stream := m__law_stream W
  have b__law_stream := b__law_stream W
  have k__law_stream := (F__law_stream W).kp
  have G__law_any := ok__law_any (P := P) (w := w) (base := base) W
  have m__law_any := m__law_any W
  have b__law_any := b__law_any W
  have k__law_any := (F__law_any W).kp
  have G__law_next := ok__law_next (P := P) (w := w) (base := base) W
  have m__law_next := m__law_next W
  have b__law_next := b__law_next W
  have k__law_next := (F__law_next W).kp
  have G__law_text := ok__law_text (P := P) (w := w) (base := base) W
  have m__law_text := m__law_text W
  have b__law_text := b__law_text W
  have k__law_text := (F__law_text W).kp
  have G_words_of := ok_words_of (P := P) (w := w) (base := base) W
  have m_words_of := m_words_of W
  have b_words_of := b_words_of W
  have k_words_of := (F_words_of W).kp
  have G__law_due := ok__law_due (P := P) (w := w) (base := base) W
  have m__law_due := m__law_due W
  have b__law_due := b__law_due W
  have k__law_due := (F__law_due W).kp
  have f_isinstance := f_isinstance W
  have f_len := f_len W
  have f_list := f_list W
  have f_min := f_min W
  have f_range := f_range W
  refine (F_law W).ok sc_law (fun vs H Q E h => by repeat (first | (obtain ⟨e, _⟩ := h; subst e; exact rfl) | obtain ⟨_, h⟩ := h)) (fun cdv A outer s H vs Q E hr h => ?_)
  have hr__law_any : Room 2 _ := hr.mono (by decide)
  have hr__law_due : Room 1 _ := hr.mono (by decide)
  have hr__law_next : Room 1 _ := hr.mono (by decide)
  have hr__law_stream : Room 1 _ := hr.mono (by decide)
  have hr__law_text : Room 3 _ := hr.mono (by decide)
  have hr_words_of : Room 1 _ := hr.mono (by decide)
  refine ⟨t_law ⟨K, P, w⟩, PSs.nox ?_, pure_law vs H Q E h⟩
  exact (pss_cons (ps_for PassesOwn.never rfl (pi_range1 rfl f_range (pa_cons (pe_callB (call_min2 rfl) (by rfl) f_min boot_min (pa_cons (pe_callB call_len (by rfl) f_len boot_len (pa_cons (pv 0) pa_nil)) (pa_cons pe_int pa_nil))) pa_nil)) (pg_name (i := 1) sc_law.nd rfl (by first | exact Or.inl rfl | exact Or.inr rfl)) (pss_cons (ps_set (i := 2) sc_law.nd rfl (by first | exact Or.inl rfl | exact Or.inr rfl) (pe_call G__law_stream hr__law_stream rfl m__law_stream k__law_stream b__law_stream .nil pass0 (pa_cons (pe_ix ix_list (pv 0) (pv 1) (fun _ _ => rfl)) (pa_cons (pv 1) pa_nil))))
      (pss_cons (ps_set (i := 3) sc_law.nd rfl (by first | exact Or.inl rfl | exact Or.inr rfl) (pe_call G__law_any hr__law_any rfl m__law_any k__law_any b__law_any .nil pass0 (pa_cons (pv 2) pa_nil)))
      (pss_mid (ps_if (pt_cmpR op_eq (pe_call G__law_next hr__law_next rfl m__law_next k__law_next b__law_next .nil pass0 (pa_cons (pv 2) (pa_cons pe_int pa_nil))) pe_int (nomark _)) (pss_one (ps_set (i := 3) sc_law.nd rfl (by first | exact Or.inl rfl | exact Or.inr rfl) (pe_call G__law_text hr__law_text rfl m__law_text k__law_text b__law_text .nil pass0 (pa_cons (pe_lst (pa_cons pe_str (pa_cons pe_str pa_nil))) (pa_cons (pv 2) pa_nil))))) pss_nil)
      (pss_one (ps_for PassesOwn.never rfl (pi_range1 rfl f_range (pa_cons pe_int pa_nil)) (pg_name (i := 4) sc_law.nd rfl (by first | exact Or.inl rfl | exact Or.inr rfl)) (pss_cons (ps_set (i := 5) sc_law.nd rfl (by first | exact Or.inl rfl | exact Or.inr rfl) (pe_call G_words_of hr_words_of rfl m_words_of k_words_of b_words_of .nil pass0 (pa_cons (pv 3) pa_nil)))
      (pss_cons (ps_if (PW.pt (pw_or (pt_not (pt_val (pe_callB call_isi (by rfl) f_isinstance boot_isinstance (pa_cons (pv 5) (pa_cons (pe_bltn rfl f_list boot_list rfl) pa_nil))))) (pw_or1 (pt_cmpR (op_neD hr.units) (pv 5) (pe_call G__law_due hr__law_due rfl m__law_due k__law_due b__law_due .nil pass0 (pa_cons (pv 3) pa_nil)) (nomark _))))) (pss_one (ps_ret pe_bl)) pss_nil)
      (pss_one (ps_expr (pe_bm PySem.F.plainAttrs_list PySem.F.slot_list_append PySem.F.type_list_append mt_append (pv 5) (pa_cons pe_str pa_nil))))))))))))
      (pss_one (ps_ret (pe_and (pe_cmpR (op_eqD hr.units) (pe_call G_words_of hr_words_of rfl m_words_of k_words_of b_words_of .nil pass0 (pa_cons pe_str pa_nil)) (pe_lst pa_nil) (nomark _)) (pe_one (pe_cmpR (op_eqD hr.units) (pe_call G_words_of hr_words_of rfl m_words_of k_words_of b_words_of .nil pass0 (pa_cons pe_str pa_nil)) (pe_lst (pa_cons pe_str pa_nil)) (nomark _)))))))
end
theorem facts {P : Program} {w : World} {K : PySem.W.Frag} {h : Heap} {mg : Str → Option Value} {f : Addr} (X : K.In h) (G : h.Ns mainGlobals mg) (hfa : mg ("law" : Str) = some (.ref f)) (c : He.SaysD faL fnL K) :
    ∃ fd : FuncData, (∀ (s : Shared) (v : Value), BindsTo s fd ⟨[v], []⟩ [("_law_script", v)]) ∧ ∀ base : Heap, K.In base → base.Ns mainGlobals mg → FnOk P w K mg base CX0 4 f fd ["_law_script"] (sp_law ⟨K, P, w⟩) := by
  have W : Wd K mg := ⟨⟨h, X, G⟩, c⟩
  have e := hfa.symm.trans (m_law W)
  cases e
  have b := FunD.bindsA (ps := ["_law_script"]) (F_law W) fun _ _ _ _ _ _ us hl => match us, hl with | [_], _ => rfl
  exact ⟨_, fun s v => b s [v] rfl, fun base _ _ => ok_law W⟩
abbrev Rw : PySem.W.OpenRow := PySem.W.OpenLaw.row PySem.Challenge.rw_lettersonce_k57_words_of_texts
abbrev hk : PySem.W.Hook := He.hookD 5 faL fnL
def ob (s : PySem.W.SharedT) : He.AlD := He.obsDG 5 faL fnL (HandSHeadRun.getT s)
theorem ob_eq (s : PySem.W.SharedT) : ob s = hk.obs s.abs := He.obsDG_eq (HandSHeadRun.getT_eq s)
def looseL_0 : List Str := ["LETTERS", "DIGITS", "words_of", "_law_stream", "_law_next", "_law_people", "_law_word", "_law_text", "_law_any", "_law_due"]
def looseL : List Str := (looseL_0 : List Str)
theorem run (w : World) : HandSHeadRun.RunEq Rw (PySem.W.view Rw.prog [12]) hk ob 1500 looseL w := by
  intro os
  kernel_rfl
end
end LO
open PySem PySem.W PySem.Calls PyProof.Rows
set_option maxHeartbeats 0 in
theorem PySem.Challenge.cw_lettersonce_k57_words_of_texts_holds : PySem.Challenge.rw_lettersonce_k57_words_of_texts.Holds := by
  w_on; o_law
  refine HandSHeadRun.head_any (r := OpenLaw.row PySem.Challenge.rw_lettersonce_k57_words_of_texts) (q := view (OpenLaw.row PySem.Challenge.rw_lettersonce_k57_words_of_texts).prog [12]) (H := LO.hk) (ob := LO.ob) (M := 1500) (loose := LO.looseL) (d := HandSHeadRun.topDef (OpenLaw.row PySem.Challenge.rw_lettersonce_k57_words_of_texts).prog 12) (kwd := []) LO.ob_eq
    (by kernel_rfl) (fun s => by kernel_rfl) LO.run (by kernel_rfl) (by kernel_rfl) (by kernel_rfl) (by rfl) (by first | assumption | decide +kernel) (by decide +kernel) ⟨rfl, rfl, rfl, rfl, rfl, by decide +kernel⟩ ?hw ?hc
  case hw => w_witness2
  case hc =>
    refine L2.walk_ofE (l := PySem.Challenge.rw_lettersonce_k57_words_of_texts) (n := 63) (k := 4) (x := "_law_script") (CX := L2.CX0) rfl (by decide) (by kernel_rfl) ⟨rfl, by decide, by decide⟩ ?F (fun _ _ _ _ z => z)
    intro w mg fa h Y G hmg0
    obtain ⟨K, KX, c⟩ := Y
    have hmg : mg ("law" : PySem.Str) = some (.ref fa) := by
      have e : (HandSHeadRun.topDef (OpenLaw.row PySem.Challenge.rw_lettersonce_k57_words_of_texts).prog 12).name = ("law" : PySem.Str) := by kernel_rfl
      rw [← e]
      exact hmg0
    obtain ⟨fd, hb, hF⟩ := LO.facts (P := (PySem.Challenge.rw_lettersonce_k57_words_of_texts).prog) (w := w) KX G hmg c
    exact ⟨K, fd, LO.sp_law ⟨K, (PySem.Challenge.rw_lettersonce_k57_words_of_texts).prog, w⟩, KX, hb, fun H a ns hl _ hS => ⟨a, ns, rfl, hS, hl, fun _ => rfl⟩, hF⟩
#print axioms PySem.Challenge.cw_lettersonce_k57_words_of_texts_holds
