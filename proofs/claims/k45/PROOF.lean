import PyProof.Rows.All
import Wide.All
import OpenK.AllK
import Wide.FinOn
import HandS.ForMost
import HandS.Wide
import HandS.IsInst
import HandS.Flow
import HandS.Style
import HandS.StrMore
import HandS.Steps
import HandS.Walk
import HandS.Deep
import KE.SortData
import KE.GoesEnum
import HandS.Set
import HandS.Strs
import HandS.TupSets
import HandS.Exc
import HandS.ExcOwn
import HandS.ExcIs
import HandS.TryOnly
import HandS.TryMany
import HandS.Property
import HandS.IterVal
import HandS.OwnIter
import HandS.WordsDict
import HandS.SetKeys
import HandS.DictTup
import HandS.Defaults
import HandS.HeadHook2
import HandS.More
import HandS.HeadHook3
import HandS.TupMul
import HandS.Replace
import HandS.ReplaceDef
import KE.KStateDown
import Lean
import HandS.Base
import HandS.Call
import HandS.Ends
import HandS.Words
import HandS.WordsExc
import HandS.Head0
import HandS.Head1
import HandS.Head2
import HandS.HeadEnd
import HandS.HeadHook1
import PySem.Challenge.RW_lettersonce_k45_the_post
set_option Elab.async false
set_option linter.all false
set_option maxRecDepth 100000
set_option maxHeartbeats 8000000
namespace LO
open PySem PySem.Spec PyProof.Rows L2
section
/-! LoBase: names for readings, step rules over readings, rules for texts and sorts. -/

/-- what a reading leans on: the written part, the program, the world -/
structure Gv where
  K : PySem.W.Frag
  P : Program
  w : World
/-! ### names of readings -/
def rAddI : R2 := rI0 fun i j => .int (i + j)
def rSubI : R2 := rI0 fun i j => .int (i - j)
def rMulI : R2 := rI CMul fun i j => .int (i * j)
def rModI : R2 := rI (fun _ j => 0 < j) fun i j => .int (i % j)
def rDivI : R2 := rI CDivW fun i j => .int (i / j)
def rPowI : R2 := rI CPow fun i j => .int (i ^ j.toNat)
def rAddS : R2 := fun x y H Q => ∃ i j, x = V.str i ∧ y = V.str j ∧ i.length + j.length ≤ sizeLine ∧ Q (V.str (i ++ j)) H
def rLtI : R2 := rI0 fun i j => .bl (decide (i < j))
def rLeI : R2 := rI0 fun i j => .bl (decide (i ≤ j))
def rGtI : R2 := rI0 fun i j => .bl (decide (j < i))
def rGeI : R2 := rI0 fun i j => .bl (decide (j ≤ i))
def rLtS : R2 := fun x y H Q => ∃ i j, x = V.str i ∧ y = V.str j ∧ Q (V.bl (decide (i.cps.toList < j.cps.toList))) H
def rLeS : R2 := fun x y H Q => ∃ i j, x = V.str i ∧ y = V.str j ∧ Q (V.bl (!decide (j.cps.toList < i.cps.toList))) H
def rGtS : R2 := fun x y H Q => ∃ i j, x = V.str i ∧ y = V.str j ∧ Q (V.bl (decide (j.cps.toList < i.cps.toList))) H
def rGeS : R2 := fun x y H Q => ∃ i j, x = V.str i ∧ y = V.str j ∧ Q (V.bl (!decide (i.cps.toList < j.cps.toList))) H
def rNeg : V → Hp → VK → Prop := rU fun i => .int (-i)
def rLen (K : PySem.W.Frag) : List V → Hp → VK → Prop := fun xs H Q => ∃ x n, xs = [x] ∧ LenV K x H n ∧ Q (V.int n) H
def rMin2 : List V → Hp → VK → Prop := fun xs H Q => ∃ i j, xs = [V.int i, V.int j] ∧ Q (V.int (if j < i then j else i)) H
def rMax2 : List V → Hp → VK → Prop := fun xs H Q => ∃ i j, xs = [V.int i, V.int j] ∧ Q (V.int (if j > i then j else i)) H
def rOrd : List V → Hp → VK → Prop := fun xs H Q => ∃ x, xs = [V.str x] ∧ x.length = 1 ∧ Q (V.int (x.cps.getD 0 0 : Nat)) H
def rInt1 : List V → Hp → VK → Prop := fun xs H Q => (∃ i, xs = [V.int i] ∧ Q (V.int i) H) ∨ ∃ k, xs = [V.bl k] ∧ Q (V.int (if k then 1 else 0)) H
def rIntS : List V → Hp → VK → Prop := fun xs H Q => ∃ a n, xs = [V.str a] ∧ PySem.intText? a = some n ∧ a.length ≤ 640 ∧ Q (V.int n) H
def rStrI : List V → Hp → VK → Prop := fun xs H Q => ∃ i, xs = [V.int i] ∧ i.natAbs.log2 < 1920 ∧ Q (V.str (toString i)) H
def rListOf (K : PySem.W.Frag) : List V → Hp → VK → Prop := fun xs H Q => ∃ p ys, xs = [V.ref p] ∧ (SqL K H p ys ∨ SqT K H p ys) ∧ ∀ l, H l = none → Q (V.ref l) (upd H l (.lst ys))
def rTupleOf (K : PySem.W.Frag) : List V → Hp → VK → Prop := fun xs H Q => ∃ p ys, xs = [V.ref p] ∧ ((SqL K H p ys ∧ ∀ l, H l = none → Q (V.ref l) (upd H l (.tup ys))) ∨ (SqT K H p ys ∧ Q (V.ref p) H))
def rLower : V → List V → Hp → VK → Prop := fun x xs H Q => ∃ a, x = V.str a ∧ xs = [] ∧ a.length ≤ 5592405 ∧ Q (V.str (Txt.lower a)) H
def rJoin (K : PySem.W.Frag) : V → List V → Hp → VK → Prop := fun x xs H Q => ∃ a p, ∃ ys : List Str, x = V.str a ∧ xs = [V.ref p] ∧ (SqL K H p (ys.map V.str) ∨ SqT K H p (ys.map V.str)) ∧
  (ys.map (·.length)).sum + ys.length * a.length ≤ 16777216 ∧ Q (V.str (Txt.join a ys)) H

/-! ### steps: what is left of a reading -/
section
variable {K : PySem.W.Frag} {σ : L2.St} {H : Hp} {Q : VK} {QB : Bool → Hp → Prop} {QA : List V → Hp → Prop} {QO : Option Int → Hp → Prop} {D : Ends} {te ta tb tc : TE} {t u : TT} {tr : TA} {ts tz : TS} {r : R2} {i j : Int} {v x y : V} {a b : Str} {p q : Addr} {xs ys : List V}
theorem w_var {k : Nat} (h : σ[k]? = some (some v)) (z : Q v H) : tVar k σ H Q := ⟨v, h, z⟩
theorem w_c (z : Q v H) : tC v σ H Q := z
theorem w_op (z : ta σ H fun x H1 => tb σ H1 fun y H2 => r x y H2 Q) : tOp r ta tb σ H Q := z
theorem w_un {r : V → Hp → VK → Prop} (z : ta σ H fun x H1 => r x H1 Q) : tUn r ta σ H Q := z
theorem w_nil (z : QA [] H) : tNil σ H QA := z
theorem w_cons (z : te σ H fun x H1 => tr σ H1 fun xs H2 => QA (x :: xs) H2) : tCons te tr σ H QA := z
theorem w_cb {r : List V → Hp → VK → Prop} (z : tr σ H fun vs H1 => r vs H1 Q) : tCB r tr σ H Q := z
theorem w_call {sp : Sp} {E : XK} (z : tr σ H fun vs H1 => sp vs H1 Q E) : tCall sp [] E tr σ H Q := by
  unfold tCall
  simp only [List.append_nil]
  exact z
theorem w_tup (z : tr σ H fun xs H1 => xs.length ≤ sizeLine ∧ ∀ p, H1 p = none → Q (V.ref p) (upd H1 p (.tup xs))) : tTup tr σ H Q := z
theorem w_lst (z : tr σ H fun xs H1 => xs.length ≤ sizeLine ∧ ∀ p, H1 p = none → Q (V.ref p) (upd H1 p (.lst xs))) : tLst tr σ H Q := z
theorem w_bm {T : String} {r : V → List V → Hp → VK → Prop} (z : te σ H fun x H1 => tyV K T x H1 ∧ tr σ H1 fun xs H2 => r x xs H2 Q) : tBM K T r te tr σ H Q := z
theorem w_bm0 {T : String} {r : V → List V → Hp → VK → Prop} (z : te σ H fun x H1 => tyV K T x H1 ∧ r x [] H1 Q) : tBM0 K T r te σ H Q := z
theorem w_sl {r : V → Option Int → Option Int → Hp → VK → Prop} {tl th : TO} (z : te σ H fun x H1 => tl σ H1 fun l H2 => th σ H2 fun u H3 => r x l u H3 Q) : tSl r te tl th σ H Q := z
theorem w_part (z : te σ H fun x H1 => ∃ i, x = V.int i ∧ QO (some i) H1) : tPart te σ H QO := z
theorem w_nopart (z : QO none H) : tNoPart σ H QO := z
theorem w_seq (z : ts { D with nx := tz D } σ H) : tSeq ts tz D σ H := z
theorem w_asg {k : Nat} (z : te σ H fun x H1 => D.nx (σ.set k (some x)) H1) : tAsg te (gName k) D σ H := z
theorem w_asgT {g : TG} (z : te σ H fun x H1 => g x σ H1 D.nx) : tAsg te g D σ H := z
theorem w_gsub {to ti : TE} {tset : TSet} {R : L2.St → Hp → Prop} (z : to σ H fun o H1 => ti σ H1 fun i H2 => tset o i v H2 fun H3 => R σ H3) : gSub to ti tset v σ H R := z
/-- a statement, then the rest, with a word Mid between them -/
def tMid (ts tz : TS) : TS := fun D σ H => ∃ Mid : L2.St → Hp → Prop, ts { D with nx := Mid } σ H ∧ ∀ σ' H', Mid σ' H' → tz D σ' H'
theorem pss_mid {X : Cx} {st : Stmt} {rest : List Stmt} (h1 : PS X st ts) (h2 : PSs X rest tz) : PSs X (st :: rest) (tMid ts tz) := by
  refine ⟨fun pins s σ H D I h => ?_⟩
  obtain ⟨Mid, hm, hu⟩ := h
  refine wpAny_execs_cons (thn (h1.run pins s σ H { D with nx := Mid } I hm) fun f s1 q => ?_)
  cases f with
  | next => exact let ⟨σ', H', I', q⟩ := q; h2.run pins s1 σ' H' D I' (hu σ' H' q)
  | ret v => exact q
  | brk => exact q
  | cont => exact q
theorem w_mid (Mid : L2.St → Hp → Prop) (h1 : ts { D with nx := Mid } σ H) (h2 : ∀ σ' H', Mid σ' H' → tz D σ' H') : tMid ts tz D σ H := ⟨Mid, h1, h2⟩
theorem w_drop (z : te σ H fun _ H1 => D.nx σ H1) : tDrop te D σ H := z
theorem w_ret (z : te σ H D.rt) : tRet te D σ H := z
theorem w_retN (z : D.rt V.non H) : tRetN D σ H := z
theorem w_next (z : D.nx σ H) : tNext D σ H := z
theorem w_brk (z : D.bk σ H) : tBreak D σ H := z
theorem w_cont (z : D.ct σ H) : tCont D σ H := z
theorem w_if (z : t σ H fun b H1 => if b = true then ts D σ H1 else tz D σ H1) : tIfS t ts tz D σ H := z
theorem w_ife (z : t σ H fun b H1 => if b = true then ta σ H1 Q else tb σ H1 Q) : tIf t ta tb σ H Q := z
theorem w_test (z : te σ H fun x H' => ∃ k, x = V.bl k ∧ QB k H') : tTest te σ H QB := z
theorem w_B (z : te σ H fun x H' => ∃ k, x = V.bl k ∧ QB k H') : tB te σ H QB := z
theorem w_bl {k : Bool} {R : Bool → Prop} (z : R k) : ∃ k', V.bl k = V.bl k' ∧ R k' := ⟨k, rfl, z⟩
theorem w_not (z : t σ H fun c H1 => QB (!c) H1) : tNot t σ H QB := z
theorem w_and (z : t σ H fun c H1 => if c = true then u σ H1 QB else QB false H1) : tAnd t u σ H QB := z
theorem w_or (z : t σ H fun c H1 => if c = true then QB true H1 else u σ H1 QB) : tOr t u σ H QB := z
theorem w_tru (z : te σ H fun x H' => ∃ k, TruV K x H' k ∧ QB k H') : tTru K te σ H QB := z
theorem w_truS {R : Bool → Prop} (h : a.length ≤ sizeLine) (z : R (decide (a.length ≠ 0))) : ∃ k, TruV K (V.str a) H k ∧ R k := by
  refine ⟨_, ⟨h, rfl⟩, ?_⟩
  have e : ((a.length : Int) != 0) = decide (a.length ≠ 0) := by
    by_cases h0 : a.length = 0
    · simp [h0]
    · rw [decide_eq_true h0]
      simp [h0]
  rw [e]
  exact z
theorem w_andV (z : ta σ H fun x H1 => ∃ c, x = V.bl c ∧ if c = true then tb σ H1 Q else Q (V.bl false) H1) : tAndV ta tb σ H Q := z
theorem w_orV (z : ta σ H fun x H1 => ∃ c, x = V.bl c ∧ if c = true then Q (V.bl true) H1 else tb σ H1 Q) : tOrV ta tb σ H Q := z
theorem w_notV (z : ta σ H fun x H1 => ∃ c, x = V.bl c ∧ Q (V.bl (!c)) H1) : tNotV ta σ H Q := z
theorem w_blI {k : Bool} {A B : Hp → Prop} (z : if k = true then A H else B H) : ∃ c, V.bl k = V.bl c ∧ if c = true then A H else B H := ⟨k, rfl, z⟩
theorem w_aug {k : Nat} {ti : TIp} (h : σ[k]? = some (some x)) (z : te σ H fun y H1 => ti x y H1 fun z H2 => D.nx (σ.set k (some z)) H2) : tAug k te ti D σ H := ⟨x, h, z⟩
theorem ifD {c A B : Prop} [Decidable c] (h1 : c → A) (h2 : ¬ c → B) : if decide c = true then A else B := by
  by_cases h : c
  · rw [decide_eq_true h]
    exact h1 h
  · rw [decide_eq_false h]
    exact h2 h
theorem ifB {c : Bool} {A B : Prop} (h1 : c = true → A) (h2 : c = false → B) : if c = true then A else B := by
  cases c
  · exact h2 rfl
  · exact h1 rfl
theorem ifN {c : Bool} {A B : Prop} (h : if c = true then B else A) : if (!c) = true then A else B := by
  cases c <;> exact h
theorem ifDT {c A B : Prop} [Decidable c] (hc : c) (h1 : A) : if decide c = true then A else B := by
  rw [decide_eq_true hc]
  exact h1
theorem ifDF {c A B : Prop} [Decidable c] (hc : ¬ c) (h1 : B) : if decide c = true then A else B := by
  rw [decide_eq_false hc]
  exact h1
/-! operations on values -/
theorem p_addI (z : Q (V.int (i + j)) H) : rAddI (V.int i) (V.int j) H Q := ⟨i, j, rfl, rfl, z⟩
theorem p_subI (z : Q (V.int (i - j)) H) : rSubI (V.int i) (V.int j) H Q := ⟨i, j, rfl, rfl, z⟩
theorem p_mulI (h : (-(2 ^ 64) < i ∧ i < 2 ^ 64) ∨ (-(2 ^ 64) < j ∧ j < 2 ^ 64)) (z : Q (V.int (i * j)) H) : rMulI (V.int i) (V.int j) H Q := ⟨i, j, rfl, rfl, h, z⟩
theorem p_modI (h : 0 < j) (z : Q (V.int (i % j)) H) : rModI (V.int i) (V.int j) H Q := ⟨i, j, rfl, rfl, h, z⟩
theorem p_divI (h : 0 < j) (h2 : j < 2 ^ 63) (z : Q (V.int (i / j)) H) : rDivI (V.int i) (V.int j) H Q := ⟨i, j, rfl, rfl, wide_div (b := 63) h (by omega) (by decide) (by decide), z⟩
theorem p_powI (h : 0 ≤ j ∧ j ≤ 1000000 ∧ i.natAbs < 2 ^ 64) (z : Q (V.int (i ^ j.toNat)) H) : rPowI (V.int i) (V.int j) H Q := ⟨i, j, rfl, rfl, h, z⟩
theorem p_ltI (z : Q (V.bl (decide (i < j))) H) : rLtI (V.int i) (V.int j) H Q := ⟨i, j, rfl, rfl, z⟩
theorem p_leI (z : Q (V.bl (decide (i ≤ j))) H) : rLeI (V.int i) (V.int j) H Q := ⟨i, j, rfl, rfl, z⟩
theorem p_gtI (z : Q (V.bl (decide (j < i))) H) : rGtI (V.int i) (V.int j) H Q := ⟨i, j, rfl, rfl, z⟩
theorem p_geI (z : Q (V.bl (decide (j ≤ i))) H) : rGeI (V.int i) (V.int j) H Q := ⟨i, j, rfl, rfl, z⟩
theorem p_eqI (z : Q (V.bl (decide (i = j))) H) : rEq (V.int i) (V.int j) H Q := ⟨rfl, by
  have e : decide (V.int i = V.int j) = decide (i = j) := by by_cases h : i = j <;> simp [h]
  rw [e]; exact z⟩
theorem p_neI (z : Q (V.bl (decide (i ≠ j))) H) : rNe (V.int i) (V.int j) H Q := ⟨rfl, by
  have e : (!decide (V.int i = V.int j)) = decide (i ≠ j) := by by_cases h : i = j <;> simp [h]
  rw [e]; exact z⟩
theorem p_eqS (z : Q (V.bl (decide (a = b))) H) : rEq (V.str a) (V.str b) H Q := ⟨rfl, by
  have e : decide (V.str a = V.str b) = decide (a = b) := by by_cases h : a = b <;> simp [h]
  rw [e]; exact z⟩
theorem p_neS (z : Q (V.bl (decide (a ≠ b))) H) : rNe (V.str a) (V.str b) H Q := ⟨rfl, by
  have e : (!decide (V.str a = V.str b)) = decide (a ≠ b) := by by_cases h : a = b <;> simp [h]
  rw [e]; exact z⟩
theorem p_addS (h : a.length + b.length ≤ sizeLine) (z : Q (V.str (a ++ b)) H) : rAddS (V.str a) (V.str b) H Q := ⟨a, b, rfl, rfl, h, z⟩
theorem p_ltS (z : Q (V.bl (decide (a.cps.toList < b.cps.toList))) H) : rLtS (V.str a) (V.str b) H Q := ⟨a, b, rfl, rfl, z⟩
theorem p_leS (z : Q (V.bl (!decide (b.cps.toList < a.cps.toList))) H) : rLeS (V.str a) (V.str b) H Q := ⟨a, b, rfl, rfl, z⟩
theorem p_int1 (z : Q (V.int i) H) : rInt1 [V.int i] H Q := .inl ⟨i, rfl, z⟩
theorem p_strI (h : i.natAbs.log2 < 1920) (z : Q (V.str (toString i)) H) : rStrI [V.int i] H Q := ⟨i, rfl, h, z⟩
theorem p_min2 (z : Q (V.int (if j < i then j else i)) H) : rMin2 [V.int i, V.int j] H Q := ⟨i, j, rfl, z⟩
theorem p_max2 (z : Q (V.int (if j > i then j else i)) H) : rMax2 [V.int i, V.int j] H Q := ⟨i, j, rfl, z⟩
theorem p_lenS (h : a.length ≤ sizeLine) (z : Q (V.int a.length) H) : rLen K [V.str a] H Q := ⟨_, _, rfl, ⟨h, rfl⟩, z⟩
theorem p_lenL (h : SqL K H p xs) (z : Q (V.int xs.length) H) : rLen K [V.ref p] H Q := ⟨_, _, rfl, .inl ⟨_, h, rfl⟩, z⟩
theorem p_lenT (h : SqT K H p xs) (z : Q (V.int xs.length) H) : rLen K [V.ref p] H Q := ⟨_, _, rfl, .inr ⟨_, h, rfl⟩, z⟩
theorem p_ixL (h : SqL K H p xs) (h2 : atI xs i = some v) (z : Q v H) : rIxL K (V.ref p) (V.int i) H Q := ⟨p, xs, i, v, rfl, rfl, h, h2, z⟩
theorem p_ixT (h : SqT K H p xs) (h2 : atI xs i = some v) (z : Q v H) : rIxT K (V.ref p) (V.int i) H Q := ⟨p, xs, i, v, rfl, rfl, h, h2, z⟩
theorem at_zero {α : Type} {x : α} {xs : List α} : atI (x :: xs) 0 = some x := by
  unfold atI ixN
  rw [if_pos (by omega), if_pos (by simp)]
  rfl
theorem p_ixS {c : Nat} (h : a.length ≤ sizeLine) (h2 : atI a.cps.toList i = some c) (z : Q (V.str ⟨#[c]⟩) H) : rIxS (V.str a) (V.int i) H Q := ⟨a, i, c, rfl, rfl, h, h2, z⟩
theorem p_inS {c : Nat} (z : Q (V.bl (decide (c ∈ a.cps.toList))) H) : rInS (V.str ⟨#[c]⟩) (V.str a) H Q := ⟨c, a, rfl, rfl, z⟩
theorem p_notInS {c : Nat} (z : Q (V.bl (decide (c ∉ a.cps.toList))) H) : rNotInS (V.str ⟨#[c]⟩) (V.str a) H Q := ⟨c, a, rfl, rfl, by
  have e : (!decide (c ∈ a.cps.toList)) = decide (c ∉ a.cps.toList) := by by_cases h : c ∈ a.cps.toList <;> simp [h]
  rw [e]; exact z⟩
theorem p_setL {k : Nat} {R : Hp → Prop} (h : H p = some (.lst xs)) (h2 : ixN xs.length i = some k) (z : R (upd H p (.lst (xs.set k v)))) : rSetL (V.ref p) (V.int i) v H R := ⟨p, xs, i, k, rfl, rfl, h, h2, z⟩
theorem p_append (h : H p = some (.lst xs)) (h2 : xs.length < sizeLine) (z : Q V.non (upd H p (.lst (xs ++ [v])))) : rAppend (V.ref p) [v] H Q := ⟨p, xs, v, rfl, rfl, h, h2, z⟩
theorem p_lower (h : a.length ≤ 5592405) (z : Q (V.str (Txt.lower a)) H) : rLower (V.str a) [] H Q := ⟨a, rfl, rfl, h, z⟩
theorem p_slS {lo hi : Option Int} (h : a.length ≤ sizeLine) (z : Q (V.str (cutS a lo hi)) H) : rSlS (V.str a) lo hi H Q := ⟨a, rfl, h, z⟩
theorem p_part {R : Int → Prop} (z : R i) : ∃ i', V.int i = V.int i' ∧ R i' := ⟨i, rfl, z⟩
theorem p_ref {R : Addr → Prop} (z : R p) : ∃ p', V.ref p = V.ref p' ∧ R p' := ⟨p, rfl, z⟩
theorem p_strE {R : Str → Prop} (z : R a) : ∃ a', V.str a = V.str a' ∧ R a' := ⟨a, rfl, z⟩
theorem tyS {T : String} (h : T = "str") : tyV K T (V.str a) H := h
theorem tyL (h : H p = some (.lst xs)) : tyV K "list" (V.ref p) H := .inl ⟨rfl, _, SqL.of h⟩
/-! loops -/
theorem w_for {wi : TI} {g : TG} {tb : TS} (z : wi σ H fun J H1 => ∃ W : Nat → Nat → L2.St → Hp → Prop, (∃ m, W 0 m σ H1) ∧ ∀ i m σ H, W i m σ H →
    (J.stop i H ∧ D.nx σ H) ∨ (J.go i H ∧ ∃ N : L2.St → Hp → Prop, (∀ σ' H', N σ' H' → ∃ m', m' < m ∧ W (i + 1) m' σ' H') ∧ ∀ x H', J.yld i H x H' → g x σ H' fun σ2 H2 => tb { D with nx := N, ct := N, bk := D.nx } σ2 H2)) : tFor wi g tb D σ H := z
theorem w_rng1 {R : It → Hp → Prop} (z : tr σ H fun vs H1 => ∃ j : Int, vs = [V.int j] ∧ -(2 ^ 62) ≤ j ∧ j < 2 ^ 62 ∧ R (Itr 0 j.toNat) H1) : iRng1 tr σ H R := z
theorem w_rng2 {R : It → Hp → Prop} (z : tr σ H fun vs H1 => ∃ i j : Int, vs = [V.int i, V.int j] ∧ (-(2 ^ 62) ≤ i ∧ i < 2 ^ 62 ∧ -(2 ^ 62) ≤ j ∧ j < 2 ^ 62) ∧ R (Itr i (j - i).toNat) H1) : iRng2 tr σ H R := z
theorem w_ilist {R : It → Hp → Prop} (z : te σ H fun x H1 => ∃ a, x = V.ref a ∧ (∃ xs, SqL K H1 a xs) ∧ R (Itl K a) H1) : iList K te σ H R := z
theorem w_itup {R : It → Hp → Prop} (z : te σ H fun x H1 => ∃ a, x = V.ref a ∧ (∃ xs, SqT K H1 a xs) ∧ R (Itt K a) H1) : iTup K te σ H R := z
theorem w_istr {R : It → Hp → Prop} (z : te σ H fun v H1 => ∃ x, v = V.str x ∧ R (Its x) H1) : iStr te σ H R := z
/-- range(n): the turn's number is k -/
theorem l_rng1 {n : Int} {g : TG} {tb : TS} (Pv : Nat → L2.St → Hp → Prop) (hb : -(2 ^ 62) ≤ n ∧ n < 2 ^ 62) (h0 : Pv 0 σ H)
    (hs : ∀ k σ' H', k < n.toNat → Pv k σ' H' → g (V.int (k : Int)) σ' H' fun σ2 H2 => tb { D with nx := Pv (k + 1), ct := Pv (k + 1), bk := D.nx } σ2 H2) (hd : ∀ σ' H', Pv n.toNat σ' H' → D.nx σ' H') :
    ∃ j : Int, [V.int n] = [V.int j] ∧ -(2 ^ 62) ≤ j ∧ j < 2 ^ 62 ∧ ∃ W : Nat → Nat → L2.St → Hp → Prop, (∃ m, W 0 m σ H) ∧ ∀ i m σ H, W i m σ H →
    ((Itr 0 j.toNat).stop i H ∧ D.nx σ H) ∨ ((Itr 0 j.toNat).go i H ∧ ∃ N : L2.St → Hp → Prop, (∀ σ' H', N σ' H' → ∃ m', m' < m ∧ W (i + 1) m' σ' H') ∧ ∀ x H', (Itr 0 j.toNat).yld i H x H' → g x σ H' fun σ2 H2 => tb { D with nx := N, ct := N, bk := D.nx } σ2 H2) := by
  refine ⟨n, rfl, hb.1, hb.2, for_range (lo := 0) (n := n.toNat) Pv h0 (fun k σ' H' hk p => ?_) hd⟩
  rw [Int.zero_add]
  exact hs k σ' H' hk p
/-- for c in a text -/
theorem l_str {z : Str} {g : TG} {tb : TS} (Pv : Nat → L2.St → Hp → Prop) (h0 : Pv 0 σ H)
    (hs : ∀ k c σ' H', z.cps.toList[k]? = some c → Pv k σ' H' → g (V.str ⟨#[c]⟩) σ' H' fun σ2 H2 => tb { D with nx := Pv (k + 1), ct := Pv (k + 1), bk := D.nx } σ2 H2) (hd : ∀ σ' H', Pv z.cps.toList.length σ' H' → D.nx σ' H') :
    ∃ x, V.str z = V.str x ∧ ∃ W : Nat → Nat → L2.St → Hp → Prop, (∃ m, W 0 m σ H) ∧ ∀ i m σ H, W i m σ H →
    ((Its x).stop i H ∧ D.nx σ H) ∨ ((Its x).go i H ∧ ∃ N : L2.St → Hp → Prop, (∀ σ' H', N σ' H' → ∃ m', m' < m ∧ W (i + 1) m' σ' H') ∧ ∀ v H', (Its x).yld i H v H' → g v σ H' fun σ2 H2 => tb { D with nx := N, ct := N, bk := D.nx } σ2 H2) := by
  refine ⟨z, rfl, for_it walk_str Pv h0 (fun _ _ _ _ _ => trivial) (fun k x σ' H1 H' hk p y => ?_) ?_⟩
  · obtain ⟨e, c, hc, e2⟩ := y
    subst e e2
    exact hs k c σ' H' (by rw [← hc, Array.getElem?_toList]) p
  · intro σ' H' p
    exact hd σ' H' (by rw [Array.length_toList]; exact p)
/-- for x in a list that stays as it is -/
theorem l_list {a : Addr} {g : TG} {tb : TS} (Pv : Nat → L2.St → Hp → Prop) (hL : SqL K H a xs) (h0 : Pv 0 σ H) (hl : ∀ k σ' H', k ≤ xs.length → Pv k σ' H' → SqL K H' a xs)
    (hs : ∀ k x σ' H', xs[k]? = some x → Pv k σ' H' → g x σ' H' fun σ2 H2 => tb { D with nx := Pv (k + 1), ct := Pv (k + 1), bk := D.nx } σ2 H2) (hd : ∀ σ' H', Pv xs.length σ' H' → D.nx σ' H') :
    ∃ b, V.ref a = V.ref b ∧ (∃ xs, SqL K H b xs) ∧ ∃ W : Nat → Nat → L2.St → Hp → Prop, (∃ m, W 0 m σ H) ∧ ∀ i m σ H, W i m σ H →
    ((Itl K b).stop i H ∧ D.nx σ H) ∨ ((Itl K b).go i H ∧ ∃ N : L2.St → Hp → Prop, (∀ σ' H', N σ' H' → ∃ m', m' < m ∧ W (i + 1) m' σ' H') ∧ ∀ v H', (Itl K b).yld i H v H' → g v σ H' fun σ2 H2 => tb { D with nx := N, ct := N, bk := D.nx } σ2 H2) :=
  ⟨a, rfl, ⟨xs, hL⟩, for_list Pv h0 hl hs hd⟩
/-- for x in a tuple -/
theorem l_tup {a : Addr} {g : TG} {tb : TS} (Pv : Nat → L2.St → Hp → Prop) (hL : SqT K H a xs) (h0 : Pv 0 σ H) (hl : ∀ k σ' H', k ≤ xs.length → Pv k σ' H' → SqT K H' a xs)
    (hs : ∀ k x σ' H', xs[k]? = some x → Pv k σ' H' → g x σ' H' fun σ2 H2 => tb { D with nx := Pv (k + 1), ct := Pv (k + 1), bk := D.nx } σ2 H2) (hd : ∀ σ' H', Pv xs.length σ' H' → D.nx σ' H') :
    ∃ b, V.ref a = V.ref b ∧ (∃ xs, SqT K H b xs) ∧ ∃ W : Nat → Nat → L2.St → Hp → Prop, (∃ m, W 0 m σ H) ∧ ∀ i m σ H, W i m σ H →
    ((Itt K b).stop i H ∧ D.nx σ H) ∨ ((Itt K b).go i H ∧ ∃ N : L2.St → Hp → Prop, (∀ σ' H', N σ' H' → ∃ m', m' < m ∧ W (i + 1) m' σ' H') ∧ ∀ v H', (Itt K b).yld i H v H' → g v σ H' fun σ2 H2 => tb { D with nx := N, ct := N, bk := D.nx } σ2 H2) :=
  ⟨a, rfl, ⟨xs, hL⟩, for_tup Pv h0 hl hs hd⟩
theorem w_gname {k : Nat} {R : L2.St → Hp → Prop} (z : R (σ.set k (some v)) H) : gName k v σ H R := z
end
end
section
/-! LoEnum: for i, x in enumerate(a tuple). -/
theorem meets_enum1 {v : Value} {o : Obj} {Hq : Heap → Prop} (B : Begins v o Hq) :
    Meets (Builtin.«enumerate.__new__» ⟨[.type "enumerate", v], []⟩) (fun _ R s => Hq s.heap ∧
      R (.ok (.ret (.ref (s.heap.push o).objs.size))) { s with heap := (s.heap.push o).push { cls := .type "enumerate", data := .fields #[.none, .bool false, .ref s.heap.objs.size, rawInt 0, .none, .none] } }) :=
  .of_wp fun prog w A R s h => by
    obtain ⟨hp, g, d, tk, os⟩ := s
    obtain ⟨h1, h⟩ := h
    have hsub := sub_enumerate
    have q1 : ∀ {A' : Around} {E : Value → Shared → Prop} {Q : Value → Shared → Prop}, Q (.ref hp.objs.size) ⟨hp.push o, g, d, tk, os⟩ → wpAny (model prog w) A' (pyIter v) Q E ⟨hp, g, d, tk, os⟩ :=
      fun q => B.iter prog w _ _ ⟨hp, g, d, tk, os⟩ _ h1 q
    wp_walk using q1
    refine wpAny_stack_any fun st => wpAny_pure ?_
    split
    · rename_i c _ _ _ _ _
      cases (c == Value.type "enumerate") <;> (wp_walk using q1; exact ⟨_, rfl, h⟩)
    · wp_walk using q1
      exact ⟨_, rfl, h⟩
section
variable {prog : Program} {w : World} {A : Around} {E : Value → Shared → Prop} {s : Shared}
theorem enum1_begins {v : Value} {o : Obj} {Hq : Heap → Prop} {Q : Value → Shared → Prop} (B : Begins v o Hq) (h1 : Hq s.heap)
    (h : ∀ h', IsEnum h' (s.heap.objs.size + 1) s.heap.objs.size 0 .none → h'.get? s.heap.objs.size = some o → (∀ b o, s.heap.get? b = some o → h'.get? b = some o) → Q (.ref (s.heap.objs.size + 1)) { s with heap := h' }) :
    wpAny (model prog w) A (call (.type "enumerate") [v]) Q E s := by
  refine callType_new F.called_enumerate (by decide) (F.typeCall_enumerate_1 _) (F.newCall_enumerate_1 _) (fun obj => F.args_object_init_2 obj _) F.entry_enumerate_new (meets_enum1 B) ⟨h1, ?_⟩
  have hz : (s.heap.push o).objs.size = s.heap.objs.size + 1 := Heap.size_push ..
  have hy := Heap.get?_push_size (s.heap.push o) (o := { cls := .type "enumerate", data := .fields #[.none, .bool false, .ref s.heap.objs.size, rawInt 0, .none, .none] }) rfl
  show _ ∧ _
  rw [hz] at hy ⊢
  exact ⟨⟨_, hy, rfl⟩, h _ hy (Heap.get?_push_of_some _ (Heap.get?_push_size _ B.free)) fun b o x => Heap.get?_push_of_some _ (Heap.get?_push_of_some _ x)⟩
theorem begins_tup (l : Addr) (items : Array Value) : Begins (.ref l) { cls := .type "tuple_iterator", data := .fields #[.ref l, .int 0 0] } fun h => h.IsTuple l items where
  iter := fun prog w A E s Q hl h => wpAny_pyIter_tuple hl h
  keeps := fun h h' x hk => x.at fun o e => hk l o e
  free := rfl
end
/-- the tuple at a, each item in a new pair -/
def Itet (K : PySem.W.Frag) (n : Nat) (a : Addr) : It :=
  ⟨fun i H => ∃ (xs : List V) (x : V), SqT K H a xs ∧ xs.length = n ∧ xs[i]? = some x, fun i H v H' => ∃ T x, v = .ref T ∧ H T = none ∧ H' = upd H T (.tup [.int (i : Nat), x]) ∧ ∀ xs, SqT K H a xs → xs[i]? = some x, fun i H => ∃ xs : List V, SqT K H a xs ∧ xs.length = n ∧ n ≤ i⟩
theorem tup_is {X : Cx} {pins : List (Addr × Obj)} {σ : L2.St} {H : Hp} {s : Shared} {a : Addr} {xs : List V} (I : Inv X pins σ H s) (h : SqT X.K H a xs) : ∃ its : List Value, Vals xs its ∧ s.heap.IsTuple a its.toArray ∧ xs.length = its.length := by
  obtain ⟨its, rv, p, _⟩ := I.tuple h
  exact ⟨its, rv, p, rv.length⟩
theorem turn_enumT {P : Program} {w : World} {K : PySem.W.Frag} {elts : List Expr} {kk : Nat} {tpos : Pos} (n : Nat) (a e it : Addr) :
    Turn P w K (.Tuple elts kk tpos) (Itet K n a) [e, it] e (fun i h => i ≤ n ∧ (∃ old, IsEnum h e it ((i : Nat) : Int) old) ∧ h.IsTupleIter it a i ∧ e ≠ it ∧ a ≠ it ∧ a ≠ e) where
  mem := by simp
  obj := fun i h st b hb => by
    obtain ⟨_, ⟨old, he⟩, ⟨o, ho, hc, hd⟩, _⟩ := st
    have e' : b = e ∨ b = it := by simpa using hb
    rcases e' with z | z
    · rw [z]; exact ⟨_, he, fun v q => nomatch q⟩
    · rw [z]; exact ⟨o, ho, fun v q => by rw [hd] at q; cases q⟩
  keep := fun i h h' st k => let ⟨hn, ⟨old, he⟩, hi, r⟩ := st; ⟨hn, ⟨old, k e (by simp) _ he⟩, hi.at fun o q => k it (by simp) o q, r⟩
  item := by
    intro X hP hw hK hc i pins s σ H E I hf st hg
    subst hP hw hK
    obtain ⟨hn, ⟨old, he⟩, hit, hne, hai, hae⟩ := st
    obtain ⟨xs, x, hq, hxn, hx⟩ := hg
    obtain ⟨its, rv, p, hlen⟩ := tup_is I hq
    obtain ⟨u, hu, ru⟩ := rv.get hx
    have hil' : i < its.length := (List.getElem?_eq_some_iff.mp hu).1
    have hel : e < s.heap.objs.size := Heap.lt_size he
    have hil : it < s.heap.objs.size := by obtain ⟨_, q, _⟩ := hit; exact Heap.lt_size q
    have hh : X.A.in1.handled = none := by simp [I.ok.hd hc]
    refine wpAny_pyNext_enum_itemD (Draws.tuple hh it a hai its.toArray) he ⟨hit, p⟩ (by simpa using hil') hne (by simp [hne, Ne.symm hae]) fun x' h' tk hx' ho hst' hT hsz hk => ?_
    obtain rfl : x' = u := by
      have q : its[i]? = some x' := by simpa using hx'
      rw [hu] at q
      exact (Option.some.inj q).symm
    refine ⟨_, rfl, wpAny_letOwnedTupleGo_enum (s := { s with heap := h', toks := tk + 1 }) ho fun h'' he' sb => ?_⟩
    have hT2 : h''.get? s.heap.objs.size = some { cls := .type "tuple", data := .seq #[.int i tk, x'] } := (sb.2 _ (Nat.ne_of_gt hel)).trans hT
    have new : ObjOk X.prog X.w (upd H s.heap.objs.size (.tup [.int (i : Nat), x])) h'' s.heap.objs.size (.tup [.int (i : Nat), x]) :=
      ⟨by show 2 ≤ sizeLine; decide, [.int i tk, x'], .cons ⟨_, rfl⟩ (.cons ru .nil), ⟨_, hT2, rfl, _, rfl⟩⟩
    have I1 : Inv X pins σ (upd H s.heap.objs.size (.tup [.int (i : Nat), x])) { s with heap := h'', toks := tk + 1 } :=
      I.turnedNew (ch := [e, it]) (fun b ob hb q => (sb.2 b (fun z => hb (by simp [z]))).trans (hk b ob (fun z => hb (by simp [z])) (fun z => hb (by simp [z])) q)) hf (Nat.le_refl _) new
    refine ⟨.ref s.heap.objs.size, _, I1, rfl, ⟨_, x, rfl, I.hok.fresh (Nat.le_refl _), rfl, fun ys hy => by rw [I.tuple_inj hy hq]; exact hx⟩, ⟨by have := rv.length; omega, ⟨x', ?_⟩, hst'.1.at fun o q => (sb.2 it (Ne.symm hne)).trans q, hne, hai, hae⟩, fun b hb => ?_⟩
    · have e1 : ((i + 1 : Nat) : Int) = (i : Int) + 1 := by omega
      rw [e1]; exact he'
    · have hb' : b < s.heap.objs.size := by
        have e' : b = e ∨ b = it := by simpa using hb
        rcases e' with z | z
        · rw [z]; exact hel
        · rw [z]; exact hil
      rw [upd_ne (Nat.ne_of_lt hb')]
      exact (hf b hb).1
  done := by
    intro X hP hw hK hc i pins s σ H E I hf st hg
    subst hP hw hK
    obtain ⟨hn, ⟨old, he⟩, hit, hne, hai, hae⟩ := st
    obtain ⟨xs, hq, hxn, hx⟩ := hg
    obtain ⟨its, rv, p, hlen⟩ := tup_is I hq
    obtain ⟨f0, f1, f2, f3, f4, f5⟩ := hf it (by simp)
    have hh : X.A.in1.handled = none := by simp [I.ok.hd hc]
    obtain rfl : i = its.toArray.size := by simp; omega
    have D := Draws.tuple (prog := X.prog) (w := X.w) hh it a hai its.toArray
    exact wpAny_pyNext_enum_endD D he ⟨hit, p⟩ fun h' eb => ⟨rfl, I.turned (t' := s.toks) (fun b o hb q => eb b o hb q) f0 f1 f3 f4 f5⟩
  self := fun A i s Q E st h => let ⟨_, ⟨_, he⟩, _⟩ := st; wpAny_pyIter_enum he h
def iEnumT (K : PySem.W.Frag) (ta : TA) : TI := fun σ H R => ta σ H fun vs H1 => ∃ a xs, vs = [.ref a] ∧ SqT K H1 a xs ∧ R (Itet K xs.length a) H1
theorem pi_enumT {X : Cx} {e : Expr} {ta : TA} {p pos tpos : Pos} {elts : List Expr} {kk : Nat} (hg : Gl X "enumerate") (hm : X.mg "enumerate" = none) (ha : PA X [e] ta) (hs : starEach [e] X.env = [(false, eval e X.env)] := by rfl) :
    PI X (.Tuple elts kk tpos) (.Call (.Name "enumerate" p) [e] [] pos) (iEnumT X.K ta) := by
  refine ⟨fun pins s σ H R I h => ?_⟩
  refine Call_ (ld_blt I hg hm boot_enumerate (PyProof.Rows.callWith_type1 (thn (ha.run pos pins s σ H _ I h) fun us s1 ⟨vs, H1, I1, r1, q1⟩ => ?_) hs rfl))
  obtain ⟨a, xs, ex, hq, q⟩ := q1
  subst ex
  cases r1 with
  | cons r rr =>
    cases rr
    cases r
    obtain ⟨its, rv, p', hz⟩ := tup_is I1 hq
    have hal : a < s1.heap.objs.size := by obtain ⟨_, y, _⟩ := p'; exact Heap.lt_size y
    refine enum1_begins (begins_tup a its.toArray) p' fun h' he hit hk => wpAny_pyIter_enum he ?_
    have I2 : Inv X pins σ H1 { s1 with heap := h' } := I1.kept (t' := s1.toks) hk
    refine ⟨s1.heap.objs.size + 1, [s1.heap.objs.size + 1, s1.heap.objs.size], _, _, H1, rfl, I2, turn_enumT xs.length a (s1.heap.objs.size + 1) s1.heap.objs.size,
      ⟨Nat.zero_le _, ⟨.none, he⟩, ⟨_, hit, rfl, rfl⟩, Nat.succ_ne_self _, Nat.ne_of_lt hal, Nat.ne_of_lt (Nat.lt_succ_of_lt hal)⟩, fun b hb => ?_, q⟩
    have hle : s1.heap.objs.size ≤ b := by
      have e' : b = s1.heap.objs.size + 1 ∨ b = s1.heap.objs.size := by simpa using hb
      rcases e' with z | z
      · rw [z]; exact Nat.le_add_right _ _
      · rw [z]; exact Nat.le_refl _
    exact I1.fpOk hle (I1.hok.fresh hle)
/-- for i, x in enumerate(t): Pv by turn, slots, heap; the pair is a new tuple -/
theorem l_enumT {K : PySem.W.Frag} {a : Addr} {xs : List V} {g : TG} {tb : TS} {D : Ends} {σ : L2.St} {H : Hp} (Pv : Nat → L2.St → Hp → Prop) (hL : SqT K H a xs) (h0 : Pv 0 σ H) (hl : ∀ k σ' H', k ≤ xs.length → Pv k σ' H' → SqT K H' a xs)
    (hs : ∀ k x σ' H' T, xs[k]? = some x → Pv k σ' H' → H' T = none → g (.ref T) σ' (upd H' T (.tup [.int (k : Nat), x])) fun σ2 H2 => tb { D with nx := Pv (k + 1), ct := Pv (k + 1), bk := D.nx } σ2 H2) (hd : ∀ σ' H', Pv xs.length σ' H' → D.nx σ' H') :
    ∃ b ys, [V.ref a] = [V.ref b] ∧ SqT K H b ys ∧ ∃ W : Nat → Nat → L2.St → Hp → Prop, (∃ m, W 0 m σ H) ∧ ∀ i m σ H, W i m σ H →
    ((Itet K ys.length b).stop i H ∧ D.nx σ H) ∨ ((Itet K ys.length b).go i H ∧ ∃ N : L2.St → Hp → Prop, (∀ σ' H', N σ' H' → ∃ m', m' < m ∧ W (i + 1) m' σ' H') ∧ ∀ v H', (Itet K ys.length b).yld i H v H' → g v σ H' fun σ2 H2 => tb { D with nx := N, ct := N, bk := D.nx } σ2 H2) := by
  have w : Walk (Itet K xs.length a) xs.length (fun H => SqT K H a xs) (fun i H v H' => ∃ T x, v = .ref T ∧ H T = none ∧ H' = upd H T (.tup [.int (i : Nat), x]) ∧ xs[i]? = some x) :=
    ⟨fun i H hi q => ⟨xs, xs[i], q, rfl, by simp [hi]⟩, fun H q => ⟨xs, q, rfl, Nat.le_refl _⟩, fun i H x H' hi q y => let ⟨T, x, e, n, e2, z⟩ := y; ⟨T, x, e, n, e2, z xs q⟩⟩
  refine ⟨a, xs, rfl, hL, for_it w Pv h0 hl (fun k v σ' H1 H' hk p y => ?_) hd⟩
  obtain ⟨T, x, e, n, e2, z⟩ := y
  subst e e2
  exact hs k x σ' H1 T z p n
end
section
/-! LoSet: set(texts), sorted of such a set, sorted of any data. -/

/-! ### a set of texts -/
def sKey (e : Int × Value) : Str := match e.2 with
  | .str x _ => x
  | _ => Str.empty
def SGood (w : World) (e : Int × Value) : Prop := ∃ x tk, e.2 = Value.str x tk ∧ e.1 = hashStr w x
/-- the set of texts at a: its members are those of L -/
def SetX (w : World) (h : Heap) (a : Addr) (L : List Str) : Prop :=
  ∃ o es ep t, h.get? a = some o ∧ o.ExactSet ∧ o.data = .set es ep t ∧ (∀ e ∈ es.toList, SGood w e) ∧ (es.toList.map sKey).Perm L ∧ L.Nodup ∧ es.size < scanBound ∧ t.fits es.size = true ∧
    Ris t.place.toList ∧ (w.params.followText "set-order" = true ∨ t.led = true)
theorem SetX.at {w : World} {h h' : Heap} {a : Addr} {L : List Str} (R : SetX w h a L) (k : ∀ o, h.get? a = some o → h'.get? a = some o) : SetX w h' a L :=
  let ⟨o, es, ep, t, ho, r⟩ := R
  ⟨o, es, ep, t, k o ho, r⟩
theorem SetX.len {w : World} {h : Heap} {a : Addr} {L : List Str} (R : SetX w h a L) : ∃ o, h.get? a = some o :=
  let ⟨o, _, _, _, ho, _⟩ := R
  ⟨o, ho⟩
section
variable {P : Program} {w : World} {A : Around} {E : Value → Shared → Prop} {s : Shared} {a : Addr} {L : List Str}
theorem sgood_el {l : List (Int × Value)} (g : ∀ e ∈ l, SGood w e) : ElemsOf (PySem.strKind P w) l := fun e he => by
  obtain ⟨k, tk, h1, h2⟩ := g e he
  exact ⟨⟨k, by rw [h1]; exact strKind_is P w k tk, h2⟩, by rw [h1] <;> rfl⟩
theorem sgood_is {e : Int × Value} (g : SGood w e) (k : Str) : (PySem.strKind P w).is k e.2 = true ↔ sKey e = k := by
  obtain ⟨k0, tk, h1, _⟩ := g
  unfold sKey
  rw [h1]
  show (Value.isStrOf k (.str k0 tk) = true) ↔ k0 = k
  simp [Value.isStrOf]
theorem sgood_mem {l : List (Int × Value)} (g : ∀ e ∈ l, SGood w e) (k : Str) : k ∈ l.map sKey ↔ ∃ e ∈ l, (PySem.strKind P w).is k e.2 = true := by
  constructor
  · intro m
    obtain ⟨e, he, q⟩ := List.mem_map.mp m
    exact ⟨e, he, (sgood_is (g e he) k).2 q⟩
  · rintro ⟨e, he, q⟩
    exact List.mem_map.mpr ⟨e, he, (sgood_is (g e he) k).1 q⟩
/-- the end of an addition: the new table is stored, and laid anew where it is too full -/
theorem setX_tail {g : Bool → Sem Unit} (hg : ∀ (b : Bool) (s₁ : Shared) (Q' : Unit → Shared → Prop), Q' () s₁ → wpAny (model P w) A (g b) Q' E s₁)
    {o : Obj} {es : Array (Int × Value)} {ep : Nat} {t : SetTable} (ho : s.heap.get? a = some o) (hex : o.ExactSet) (hd : o.data = .set es ep t)
    {es1 : Array (Int × Value)} {t2 : SetTable} {L' : List Str} (g1 : ∀ e ∈ es1.toList, SGood w e) (p1 : (es1.toList.map sKey).Perm L') (nd1 : L'.Nodup)
    (hb1 : es1.size < scanBound) (hf2 : t2.fits es1.size = true) (hr : Ris t2.place.toList) (hl : w.params.followText "set-order" = true ∨ t2.led = true) {wasDummy : Bool} {R : Option Bool → Shared → Prop}
    (hR : ∀ h', Heap.SameBut a s.heap h' → SetX w h' a L' → R (some true) { s with heap := h' }) :
    wpAny (model P w) A (do
        storeSet a es1 t2
        if (!wasDummy && t2.tooFull) = true then do
            g (relayAll t2 es1 (SetTable.grown es1.size)).2.2
            storeSet a (relayAll t2 es1 (SetTable.grown es1.size)).1 (relayAll t2 es1 (SetTable.grown es1.size)).2.1
            pure (some true)
          else pure (some true)) R E s := by
  have ho1 := store_at (es' := es1) (t' := t2) ho hd
  have sb1 := Heap.SameBut.update s.heap a (Obj.putSet es1 t2)
  refine wpAny_bind (wpAny_storeSet_of ho hd ?_ (fits_of_scanBound hb1))
  split
  · have pm := relayAll_perm t2 es1 (SetTable.grown es1.size)
    have hf3 := relayAll_fits t2 es1 (SetTable.grown es1.size)
    have hr3 := relayAll_ris t2 es1 (SetTable.grown es1.size)
    have hl3 := relayAll_led t2 es1 (SetTable.grown es1.size)
    generalize relayAll t2 es1 (SetTable.grown es1.size) = Z at pm hf3 hr3 hl3 ⊢
    obtain ⟨es2, t3, gave⟩ := Z
    dsimp only at pm hf3 hr3 hl3 ⊢
    have hb2 : es2.size < scanBound := by
      rw [← Array.length_toList, pm.length_eq, Array.length_toList]
      exact hb1
    have ho2 := store_at (es' := es2) (t' := t3) ho1 rfl
    refine wpAny_bind (hg _ _ _ (wpAny_bind (wpAny_storeSet_of ho1 rfl (wpAny_pure (hR _ (sb1.trans (Heap.SameBut.update _ a _)) ?_)) (fits_of_scanBound hb2))))
    exact ⟨_, es2, _, t3, ho2, hex, rfl, fun e he => g1 e (pm.mem_iff.mp he), (pm.map sKey).trans p1, nd1, hb2, hf3, hr3, hl.imp id fun z => by rw [hl3]; exact z⟩
  · exact wpAny_pure (hR _ sb1 ⟨_, es1, _, t2, ho1, hex, rfl, g1, p1, nd1, hb1, hf2, hr, hl⟩)
/-- one text more -/
def addX (L : List Str) (x : Str) : List Str := if x ∈ L then L else x :: L
theorem setX_add {k : Str} {tk : Tok} {Q : Bool → Shared → Prop} (R : SetX w s.heap a L) (room : L.length + 1 < scanBound)
    (hQ : ∀ b h', Heap.SameBut a s.heap h' → SetX w h' a (addX L k) → Q b { s with heap := h' }) :
    wpAny (model P w) A (setAddHashed a (.str k tk) ((PySem.strKind P w).hash k)) Q E s := by
  obtain ⟨o, es, ep, t, ho, hex, hd, g, pL, nd, hb, hf, hr, hl⟩ := R
  have hlen : es.size = L.length := by
    have q := pL.length_eq
    rw [List.length_map, Array.length_toList] at q
    exact q
  have hkey : (PySem.strKind P w).is k (.str k tk) = true := strKind_is P w k tk
  have hsc : (Value.str k tk).scannable = true := rfl
  have hel : ElemsOf (PySem.strKind P w) es.toList := sgood_el g
  unfold setAddHashed setAddHashedIn
  refine wpAny_holding (wpAny_bind (wpAny_setState_of ho hd hf ?_))
  dsimp only
  rw [byScan_of hsc hb hel]
  simp only [↓reduceIte]
  unfold setAddByScan
  refine wpAny_bind (wpAny_bind (wpAny_rule (wpAny_bind (wpAny_setScan_of hkey ho hd hf hel ?_))))
  cases hfi : List.findIdx? (fun e => (PySem.strKind P w).is k e.2) es.toList with
  | some j =>
    dsimp only
    obtain ⟨hj, pj, _⟩ := List.findIdx?_eq_some_iff_getElem.mp hfi
    have hk : k ∈ L := pL.mem_iff.mp ((sgood_mem (P := P) g k).2 ⟨es.toList[j], List.getElem_mem hj, pj⟩)
    refine wpAny_pure (wpAny_pure (hQ _ s.heap (Heap.SameBut.refl a s.heap) ?_))
    unfold addX
    rw [if_pos hk]
    exact ⟨o, es, ep, t, ho, hex, hd, g, pL, nd, hb, hf, hr, hl⟩
  | none =>
    dsimp only
    have hk : k ∉ L := fun z => by
      obtain ⟨e, he, q⟩ := (sgood_mem (P := P) g k).1 (pL.mem_iff.mpr z)
      have c := List.findIdx?_eq_none_iff.mp hfi e he
      rw [q] at c
      cases c
    have hgw : ∀ (b : Bool) {s₁ : Shared} {Q' : Unit → Shared → Prop}, Q' () s₁ → wpAny (model P w) A (match b with | true => rule "set.scan.the-table-gave-way" | false => pure ()) Q' E s₁ :=
      fun b s₁ Q' q => by cases b <;> first | exact wpAny_pure q | exact wpAny_rule q
    have pm := layNew_perm t es ((PySem.strKind P w).hash k) (.str k tk)
    have hf1 := layNew_fits t es ((PySem.strKind P w).hash k) (.str k tk)
    have hr1 := layNew_ris t es ((PySem.strKind P w).hash k) (.str k tk) hr
    have hl1 := layNew_led t es ((PySem.strKind P w).hash k) (.str k tk)
    generalize layNew t es ((PySem.strKind P w).hash k) (.str k tk) = Z at pm hf1 hr1 hl1 ⊢
    obtain ⟨es1, t1, wasDummy, gave⟩ := Z
    dsimp only at pm hf1 hr1 hl1 ⊢
    rw [Array.toList_push] at pm
    have pc : es1.toList.Perm (((PySem.strKind P w).hash k, Value.str k tk) :: es.toList) := pm.trans (List.perm_append_singleton _ _)
    have p1 : (es1.toList.map sKey).Perm (addX L k) := by
      unfold addX
      rw [if_neg hk]
      exact (pc.map sKey).trans (pL.cons k)
    have g1 : ∀ e ∈ es1.toList, SGood w e := fun e he => by
      rcases List.mem_cons.mp (pc.mem_iff.mp he) with z | z
      · rw [z]; exact ⟨k, tk, rfl, rfl⟩
      · exact g e z
    have nd1 : (addX L k).Nodup := by
      unfold addX
      rw [if_neg hk]
      exact List.nodup_cons.mpr ⟨hk, nd⟩
    have hb1 : es1.size < scanBound := by
      rw [← Array.length_toList, pc.length_eq, List.length_cons, Array.length_toList, hlen]
      exact room
    have hled : w.params.followText "set-order" = true ∨ t1.led = true := hl.imp id fun z => by rw [hl1]; exact z
    have gw : ∀ (b : Bool) (s₁ : Shared) (Q' : Unit → Shared → Prop), Q' () s₁ → wpAny (model P w) A (match b with | true => rule "set.scan.the-table-gave-way" | false => pure ()) Q' E s₁ := fun b s₁ Q' q => hgw b q
    refine wpAny_bind (hgw _ ?_)
    split
    · refine wpAny_bind ?_
      rw [hashByValue_scannable 8 hsc]
      refine wpAny_pure (setX_tail ?_ ho hex hd g1 p1 nd1 hb1 ?_ ?_ ?_ ?_)
      · intro b s₁ Q' q; cases b <;> first | exact wpAny_pure q | exact wpAny_rule q
      · first | (split <;> first | exact hf1 | exact SetTable.fits_plain_off hf1) | exact hf1
      · first | (split <;> exact hr1) | exact hr1
      · first | (split <;> exact hled) | exact hled
      · intro h' sb r; dsimp only; exact wpAny_pure (hQ _ h' sb r)
    · refine wpAny_bind (wpAny_pure ?_)
      simp only [↓reduceIte]
      refine setX_tail ?_ ho hex hd g1 p1 nd1 hb1 hf1 hr1 hled ?_
      · intro b s₁ Q' q; cases b <;> first | exact wpAny_pure q | exact wpAny_rule q
      · intro h' sb r; dsimp only; exact wpAny_pure (hQ _ h' sb r)
end
/-! ### filling it from a list -/
def addAllX (L xs : List Str) : List Str := xs.foldl addX L
theorem addAllX_snoc (L xs : List Str) (x : Str) : addAllX L (xs ++ [x]) = addX (addAllX L xs) x := by
  unfold addAllX
  rw [List.foldl_append]
  rfl
theorem addX_len (L : List Str) (x : Str) : (addX L x).length ≤ L.length + 1 := by
  unfold addX
  split
  · omega
  · exact Nat.le_refl _
theorem addAllX_len (xs : List Str) : ∀ L : List Str, (addAllX L xs).length ≤ L.length + xs.length := by
  induction xs with
  | nil => exact fun L => Nat.le_refl _
  | cons x xs ih =>
    intro L
    have h1 := ih (addX L x)
    have h2 := addX_len L x
    show (addAllX (addX L x) xs).length ≤ L.length + (xs.length + 1)
    omega
theorem mem_addX {L : List Str} {x y : Str} : y ∈ addX L x ↔ y ∈ L ∨ y = x := by
  unfold addX
  split
  · rename_i h
    exact ⟨.inl, fun z => z.elim id fun e => e ▸ h⟩
  · rw [List.mem_cons]
    exact Or.comm
theorem mem_addAllX {xs : List Str} : ∀ {L : List Str} {y : Str}, y ∈ addAllX L xs ↔ y ∈ L ∨ y ∈ xs := by
  induction xs with
  | nil => exact fun {L y} => ⟨.inl, fun z => z.elim id fun h => nomatch h⟩
  | cons x xs ih =>
    intro L y
    show y ∈ addAllX (addX L x) xs ↔ _
    rw [ih, mem_addX, List.mem_cons, or_assoc]
theorem nodup_addX {L : List Str} {x : Str} (h : L.Nodup) : (addX L x).Nodup := by
  unfold addX
  split
  · exact h
  · rename_i hn
    exact List.nodup_cons.mpr ⟨hn, h⟩
theorem nodup_addAllX {xs : List Str} : ∀ {L : List Str}, L.Nodup → (addAllX L xs).Nodup := by
  induction xs with
  | nil => exact fun h => h
  | cons x xs ih => exact fun h => ih (nodup_addX h)
section
variable {P : Program} {w : World} {A : Around} {E : Value → Shared → Prop} {s : Shared}
theorem fill_texts {I : Addr} {fp wr : List Addr} {G : Array GenState → Array GenState → Prop} {n : Nat} {Pv : Nat → Value → Prop} {St : Nat → Shared → Prop} {R : Result → Shared → Prop}
    (W : WalksS P w A.in1 I fp wr G n Pv St) (S : Addr) (hSf : S ∉ fp) (xs : List Str) (hn : n = xs.length) (hfew : xs.length < 2000) (hval : ∀ i v, Pv i v → ∃ x t, xs[i]? = some x ∧ v = .str x t) :
    ∀ (k i : Nat) (s : Shared), n - i = k → i ≤ n → St i s → SetX w s.heap S (addAllX [] (xs.take i)) →
      (∀ s', Moved (S :: wr) G s s' → SetX w s'.heap S (addAllX [] xs) → R (.ok (.ret .none)) s') →
      codeAny (model P w) A (.builtin "set.update.loop" ⟨[.ref S, .ref I], []⟩) R s := by
  have hSw : S ∉ wr := fun h => hSf (W.sub _ h)
  have hsub : ∀ b ∈ wr, b ∈ S :: wr := fun b hb => List.mem_cons_of_mem _ hb
  intro k
  induction k with
  | zero =>
    intro i s hk' hi hst hS hR
    have hin : i = n := by omega
    refine codeAny_builtin F.entry_set_update_loop ?_
    rw [Around.under_plainId F.plain_set_update_loop _]
    show wpAny _ A.in1 (pyNext (.ref I) >>= _) _ _ s
    subst hin
    refine wpAny_bind (W.done s _ _ hst fun s' hm => ?_)
    show wpAny _ A.in1 (ret Value.none) _ _ s'
    refine wpAny_pure (hR s' (hm.mono hsub) ?_)
    rw [hn, List.take_length] at hS
    exact hS.at fun o e => hm.heap S o hSw e
  | succ k ih =>
    intro i s hk' hi hst hS hR
    have hlt : i < n := by omega
    refine codeAny_builtin F.entry_set_update_loop ?_
    rw [Around.under_plainId F.plain_set_update_loop _]
    show wpAny _ A.in1 (pyNext (.ref I) >>= _) _ _ s
    refine wpAny_bind (W.item i s _ _ hlt hst fun v s' hP hst' hm => ?_)
    obtain ⟨x, t, hx, rfl⟩ := hval i v hP
    have hS' : SetX w s'.heap S (addAllX [] (xs.take i)) := hS.at fun o e => hm.heap S o hSw e
    show wpAny _ A.in1 (holding [Value.str x t] (setAdd S (.str x t)) >>= _) _ _ s'
    refine wpAny_bind (wpAny_holding ?_)
    unfold setAdd
    refine wpAny_holding (wpAny_bind ((PySem.strKind P w).pyHash (k := x) (strKind_is _ _ _ _) ?_))
    have hroom : (addAllX [] (xs.take i)).length + 1 < scanBound := by
      have q := addAllX_len (xs.take i) []
      rw [List.length_take] at q
      unfold scanBound
      simp only [List.length_nil] at q
      omega
    refine setX_add (s := { s' with toks := s'.toks + 1 }) hS' hroom fun b h' hsb hS2 => ?_
    have htk : xs.take (i + 1) = xs.take i ++ [x] := by rw [List.take_add_one, hx]; rfl
    rw [← addAllX_snoc, ← htk] at hS2
    refine wpAny_pure ⟨plainId_quiet F.plain_set_update_loop _, ih (i + 1) _ (by omega) hlt (W.frame _ s' _ _ hst' (Nat.le_succ _) fun b hb o e => ?_) hS2 fun s'' hm'' hS'' => ?_⟩
    · rw [hsb.2 b (fun h : b = S => hSf (by rw [← h]; exact hb))]; exact e
    · refine hR s'' (Moved.trans W.gtrans ((hm.mono hsub).then_heap (Nat.le_succ _) fun b o hb e => ?_) hm'') hS''
      rw [hsb.2 b (fun h : b = S => hb (by rw [h]; exact List.mem_cons_self))]; exact e
/-- the empty set object -/
abbrev freshSet (w : World) : Obj := { cls := .type "set", dict := none, data := .set #[] 0 (.fresh 0 0 (!w.params.followText "set-order")) }
theorem setX_fresh {h : Heap} {a : Addr} (ho : h.get? a = some (freshSet w)) : SetX w h a [] :=
  ⟨_, #[], 0, _, ho, ⟨rfl, rfl, rfl⟩, rfl, (fun e he => by simp at he), .nil, List.nodup_nil, (by decide), (by rfl), List.Pairwise.nil, by
    show _ ∨ (!w.params.followText "set-order") = true
    cases w.params.followText "set-order"
    · exact .inr rfl
    · exact .inl rfl⟩
set_option maxHeartbeats 8000000 in
theorem set_of_texts {l : Addr} {items : Array Value} {xs : List Str} {Q : Value → Shared → Prop} (hh : A.handled = none) (hl : s.heap.IsList l items) (hi : StrsAre items.toList xs) (hfew : xs.length < 2000)
    (h : ∀ (h' : Heap) (tk : Nat), SetX w h' s.heap.objs.size (addAllX [] xs) → (∀ b o, s.heap.get? b = some o → h'.get? b = some o) → Q (.ref s.heap.objs.size) { s with heap := h', toks := tk }) :
    wpAny (model P w) A (call (.type "set") [.ref l]) Q E s := by
  have hisz : items.size = xs.length := by rw [← StrsAre.len_eq hi, Array.length_toList]
  obtain ⟨c, tl, hmro⟩ := F.called_set.mro
  have hmade := F.called_set.made
  have hsub := F.called_set.sub
  refine wpAny_call (codeAny_of_tree ?_)
  show wpAny _ _ (callAny (.type "set") _) _ _ _
  refine wpAny_pure ⟨Code.quiet_builtin _ (by decide +kernel), codeAny_builtin F.entry_type_call ?_⟩
  rw [Around.under_plain (weight_type_call_type "set" [.ref l] []) rfl]
  have h1 := F.called_set.notType
  have h2 := F.called_set.canCreate
  have hct := F.typeCall_set_1 (.ref l)
  repeat (any_goals (first | assumption | wp_step))
  refine codeAny_mono (code_set_led1 (.ref l) (E := E) (Q₁ := fun obj s₁ => obj = .ref s.heap.objs.size ∧ s₁ = { s with heap := s.heap.push (freshSet w) }) ⟨rfl, rfl⟩) fun r s₁ hr => ?_
  cases r with
  | error e => exact hr
  | ok fl =>
    cases fl with
    | ret obj =>
      obtain ⟨rfl, rfl⟩ := hr
      have hS : (s.heap.push (freshSet w)).get? s.heap.objs.size = some (freshSet w) := Heap.get?_push_size _ rfl
      have hT : Shared.TypeIs { s with heap := s.heap.push (freshSet w) } (.ref s.heap.objs.size) "set" := ⟨_, hS, rfl⟩
      have hli := F.called_set.init.lookup
      have hbi := F.called_set.init.bind (.ref s.heap.objs.size)
      repeat (any_goals (first | assumption | wp_step))
      refine codeAny_mono (codeAny_call_builtin (R := wants (fun r s₂ => r = .none ∧ ∃ h' tk, s₂ = { s with heap := h', toks := tk } ∧ SetX w h' s.heap.objs.size (addAllX [] xs) ∧
          (∀ b o, s.heap.get? b = some o → h'.get? b = some o)) E) F.called_set.init.plain F.entry_set_init (check_set_init_1 hT ?_)) fun r₂ s₂ hr₂ => ?_
      · obtain ⟨ol, hol, hcl, nl, hdl⟩ := hl
        obtain ⟨ocls, odict, odata, oslots⟩ := ol
        simp only at hcl hdl
        subst hcl; subst hdl
        have hol' : (s.heap.push (freshSet w)).get? l = some { cls := .type "list", dict := odict, data := .seq items nl, slots := oslots } := Heap.get?_push_of_some _ hol
        have hsls := F.sub_list_set
        have hslf := F.sub_list_frozenset
        have hne : (Value.type "list" == Value.type "dict") = false := by decide
        have hl1 : (s.heap.push (freshSet w)).IsList l items := ⟨_, hol', rfl, nl, rfl⟩
        unfold Builtin.«set.__init__» noKeywords Builtin.Frozenset.updateFrom
        generalize hPI : pyIter = PI
        wp_walk
        subst hPI
        refine wpAny_pyIter_list hl1 (wpAny_bind (wpAny_runValue ?_))
        have hlS : l < s.heap.objs.size := Heap.lt_size hol
        have hh3 : A.in1.in1.in1.handled = none := by simp [hh]
        have hz1 : (s.heap.push (freshSet w)).objs.size = s.heap.objs.size + 1 := Heap.size_push ..
        have hneI : l ≠ (s.heap.push (freshSet w)).objs.size := by
          rw [hz1]
          exact Nat.ne_of_lt (Nat.lt_succ_of_lt hlS)
        have hSf : s.heap.objs.size ∉ [(s.heap.push (freshSet w)).objs.size, l] := by
          rw [hz1]
          simp only [List.mem_cons, List.not_mem_nil, or_false, not_or]
          exact ⟨Nat.ne_of_lt (Nat.lt_succ_self _), Nat.ne_of_gt hlS⟩
        have hval : ∀ (i : Nat) (v : Value), items[i]? = some v → ∃ x t, xs[i]? = some x ∧ v = .str x t := fun i v hv => by
          have q : items.toList[i]? = some v := by rw [Array.getElem?_toList]; exact hv
          obtain ⟨t, e⟩ := SS.strs_at hi i v q
          have hi2 : i < xs.length := by
            have := (List.getElem?_eq_some_iff.mp q).1
            rw [Array.length_toList, hisz] at this
            exact this
          refine ⟨xs.getD i Str.empty, t, ?_, e⟩
          rw [List.getD_eq_getElem?_getD, List.getElem?_eq_getElem hi2]
          rfl
        refine fill_texts ((Walks.list hh3 _ l hneI items).toS) s.heap.objs.size hSf xs hisz hfew hval (items.size - 0) 0 _ (by omega) (Nat.zero_le _)
          ⟨⟨_, Heap.get?_push_size _ rfl, rfl, rfl⟩, (hl1.push _)⟩ ?hS0 ?hR
        case hS0 => exact setX_fresh (Heap.get?_push_of_some _ hS)
        case hR =>
          intro s' hm hS'
          obtain ⟨h', g2, d', tk', os'⟩ := s'
          have eg : g2 = s.gens := hm.gens
          have ed : d' = s.drawn := hm.drawn
          have eo : os' = s.os := hm.os
          subst eg; subst ed; subst eo
          show wpAny _ _ _ _ _ _
          refine wpAny_pure ?_
          show wpAny _ _ (ret Value.none) _ _ _
          refine wpAny_pure ⟨rfl, h', tk', rfl, hS', fun b o e => ?_⟩
          have hb := Heap.lt_size e
          exact hm.heap b o (by
            simp only [List.mem_cons, List.not_mem_nil, or_false, not_or, hz1]
            exact ⟨Nat.ne_of_lt hb, Nat.ne_of_lt (Nat.lt_succ_of_lt hb)⟩) (Heap.get?_push_of_some _ (Heap.get?_push_of_some _ e))
      · cases r₂ with
        | error e => exact hr₂
        | ok fl₂ =>
          cases fl₂ with
          | ret r =>
            obtain ⟨rfl, h', tk, rfl, hS', hk'⟩ := hr₂
            repeat (any_goals (first | assumption | wp_step))
            exact h _ _ hS' hk'
          | _ => exact hr₂.elim
    | _ => exact hr.elim
end
end
section
/-! LoRules: sorted of data of any length, set(texts), text * int, text += text. -/

def ipAddI : TIp := ipI fun i j => i + j
def ipSubI : TIp := ipI fun i j => i - j
def ipAddS : TIp := fun x y H Q => ∃ i j, x = V.str i ∧ y = V.str j ∧ i.length + j.length ≤ sizeLine ∧ Q (V.str (i ++ j)) H
theorem ip_addS {X : Cx} : PIp X .Add ipAddS := fun pins s σ H x y v u Q I rx ry h => iop_add_str pins s σ H x y v u Q I rx ry h
theorem p_ipAddI {H : Hp} {Q : VK} {i j : Int} (z : Q (V.int (i + j)) H) : ipAddI (V.int i) (V.int j) H Q := ⟨i, j, rfl, rfl, z⟩
theorem p_ipSubI {H : Hp} {Q : VK} {i j : Int} (z : Q (V.int (i - j)) H) : ipSubI (V.int i) (V.int j) H Q := ⟨i, j, rfl, rfl, z⟩
theorem p_ipAddS {H : Hp} {Q : VK} {a b : Str} (h : a.length + b.length ≤ sizeLine) (z : Q (V.str (a ++ b)) H) : ipAddS (V.str a) (V.str b) H Q := ⟨a, b, rfl, rfl, h, z⟩

/-! ### text * int -/
def repS (a : Str) (k : Nat) : Str := ⟨((List.replicate k a.cps.toList).flatten).toArray⟩
theorem fold_rep (c : Array Nat) : ∀ (k : Nat) (acc : Array Nat), (List.replicate k c).foldl (· ++ ·) acc = acc ++ ((List.replicate k c.toList).flatten).toArray
  | 0, acc => by simp
  | k + 1, acc => by
    rw [List.replicate_succ, List.foldl_cons, fold_rep c k, List.replicate_succ, List.flatten_cons, Array.append_assoc]
    congr 1
    simp
theorem repS_one (a : Str) : repS a 1 = a := by
  apply TL.ext_tl
  show (List.replicate 1 a.cps.toList).flatten = a.cps.toList
  simp
theorem repS_toList (a : Str) (k : Nat) : (repS a k).cps.toList = (List.replicate k a.cps.toList).flatten := rfl
theorem repS_len (a : Str) (k : Nat) : (repS a k).length = a.length * k := by
  show (((List.replicate k a.cps.toList).flatten).toArray).size = a.cps.size * k
  rw [List.size_toArray, List.length_flatten, List.map_replicate, List.sum_replicate_nat, Array.length_toList, Nat.mul_comm]
def rMulS : R2 := fun x y H Q => ∃ (a : Str) (n : Nat), x = V.str a ∧ y = V.int n ∧ n < 1000000 ∧ a.length * n ≤ 16777216 ∧ Q (V.str (repS a n)) H
theorem p_mulS {H : Hp} {Q : VK} {a : Str} {i : Int} (n : Nat) (h : i = (n : Int)) (h1 : n < 1000000) (h2 : a.length * n ≤ 16777216) (z : Q (V.str (repS a n)) H) : rMulS (V.str a) (V.int i) H Q := ⟨a, n, rfl, by rw [h], h1, h2, z⟩
theorem op_mulS {X : Cx} : OpR X (binaryOp .Mult) rMulS := by
  intro pins s σ H x y v u Q I rx ry h
  obtain ⟨a, n, rfl, rfl, hn, hl, q⟩ := h
  obtain ⟨t, rfl⟩ := rx
  obtain ⟨t', rfl⟩ := ry
  have hz : sizeLine = 16777216 := sizeLine_eq
  refine PySem.P.mul_str ?_ (fun h1 h2 => ?_) (fun h1 h2 => ?_) ?_
  · rw [decide_eq_false (by omega), decide_eq_false (by omega)]
    rfl
  · have hq : (16777216 : Int) ≤ (2 ^ 63 - 1) / (n : Int) := by
      rw [Int.le_ediv_iff_mul_le (by omega)]
      omega
    have ha : (a.length : Int) ≤ 16777216 := by
      have h3 : 1 ≤ n := by omega
      have h4 : a.length * 1 ≤ a.length * n := Nat.mul_le_mul_left _ h3
      omega
    omega
  · have h4 : a.length * n ≤ sizeLine := by omega
    rw [Int.toNat_natCast]
    unfold Builtin.Str.tooLong
    exact decide_eq_false (by omega)
  · by_cases h1 : (n : Int) < 1
    · rw [if_pos h1]
      have e0 : n = 0 := by omega
      subst e0
      have e : repS a 0 = Str.empty := rfl
      rw [e] at q
      exact ⟨by decide, V.str Str.empty, H, I.tok _, ⟨_, rfl⟩, q⟩
    · rw [if_neg h1]
      by_cases h2 : ((n : Int) == 1 || a.length == 0) = true
      · rw [if_pos h2]
        refine ⟨V.str (repS a n), H, I, ⟨t, ?_⟩, q⟩
        rcases Bool.or_eq_true_iff.mp h2 with h3 | h3
        · have e1 : n = 1 := by
            have := eq_of_beq h3
            omega
          rw [e1, repS_one]
        · have e1 : a.length = 0 := eq_of_beq h3
          have e2 : a.cps = #[] := Array.eq_empty_of_size_eq_zero e1
          have e3 : repS a n = a := by
            apply TL.ext_tl
            show (List.replicate n a.cps.toList).flatten = a.cps.toList
            rw [e2]
            simp
          rw [e3]
      · rw [if_neg h2]
        have e : (⟨(List.replicate (n : Int).toNat a.cps).foldl (· ++ ·) #[]⟩ : Str) = repS a n := by
          apply TL.ext_tl
          show ((List.replicate (n : Int).toNat a.cps).foldl (· ++ ·) #[]).toList = (List.replicate n a.cps.toList).flatten
          rw [fold_rep, Int.toNat_natCast]
          simp
        rw [e]
        refine ⟨?_, V.str (repS a n), H, I.tok _, ⟨_, rfl⟩, q⟩
        have h4 : (repS a n).length ≤ sizeLine := by rw [repS_len]; omega
        exact h4

/-! ### sorted -/
theorem each_vals {β : Type} {f : β → V} : ∀ {bs : List β} {us : List Value}, Vals (bs.map f) us → PySem.W.EachIs (fun v b => RelV (f b) v) us bs
  | [], _, .nil => .nil
  | _ :: _, _, .cons r t => .cons r (each_vals t)
theorem vals_each {β : Type} {f : β → V} : ∀ {bs : List β} {us : List Value}, PySem.W.EachIs (fun v b => RelV (f b) v) us bs → Vals (bs.map f) us
  | [], _, .nil => .nil
  | _ :: _, _, .cons r t => .cons r (vals_each t)
theorem each_of {β : Type} {R R' : Value → β → Prop} : ∀ {bs : List β} {us : List Value}, PySem.W.EachIs R us bs → (∀ v b, b ∈ bs → R v b → R' v b) → PySem.W.EachIs R' us bs
  | _, _, .nil, _ => .nil
  | _, _, .cons r t, f => .cons (f _ _ List.mem_cons_self r) (each_of t fun v b hb => f v b (List.mem_cons_of_mem _ hb))
/-- items b of a type of one's own: f b the value, enc b the data it reads as -/
def rSortedD (K : PySem.W.Frag) (β : Type) (f : β → V) (enc : β → PyData) : List V → Hp → VK → Prop := fun vs H Q => ∃ (a : Addr) (bs : List β), vs = [V.ref a] ∧ SqL K H a (bs.map f) ∧ (∀ b ∈ bs, Dp K H (f b) (enc b)) ∧
  PySem.W.AllAlike (bs.map enc) ∧ PySem.W.Sortable (bs.map enc) ∧ (∀ b ∈ bs, (enc b).depth ≤ 60) ∧ ∀ p, H p = none → Q (.ref p) (upd H p (.lst ((bs.mergeSort (PySem.W.dataLe false enc)).map f)))
theorem cr_sortedD {X : Cx} {β : Type} {f : β → V} {enc : β → PyData} (hu : X.A.units + 64 < cLine) : CallR X (.builtin "sorted") (rSortedD X.K β f enc) := by
  intro pins s σ H vs us Q I r h
  obtain ⟨a, bs, rfl, hs, hd, hal, hk, hdep, q⟩ := h
  obtain ⟨its, rv, hl, hz⟩ := I.list hs
  rw [Vals.ref1 r]
  have e := each_vals rv
  have er : PySem.W.EachIs (fun v b => ∃ as, Reads s.heap v (enc b) as) its bs := each_of e fun v b hb hr => Dp.reads I (enc b) (f b) v (hd b hb) hr
  rw [List.length_map] at hz
  refine PySem.W.sorted_data hl.isList e er hal hk hz (fun b hb => ?_) fun out hlen hout => ?_
  · have := hdep b hb
    omega
  · obtain ⟨ep, he'⟩ := PyProof.Rows.sortedAll_at s.heap its out.toArray
    have hl2 : ((bs.mergeSort (PySem.W.dataLe false enc)).map f).length ≤ sizeLine := by
      rw [List.length_map, List.length_mergeSort]
      exact hz
    exact ⟨.ref _, upd H (s.heap.objs.size + 1) (.lst ((bs.mergeSort (PySem.W.dataLe false enc)).map f)), I.laid (t' := s.toks) (fun _ _ => PyProof.Rows.sortedAll_old) (Nat.le_succ _) ⟨hl2, out, ep, vals_each hout, he'⟩, rfl, q _ (I.hok.fresh (Nat.le_succ _))⟩
/-! texts -/
def leS (a b : Str) : Bool := decide (a.cps.toList ≤ b.cps.toList)
def rSortedStr (K : PySem.W.Frag) : List V → Hp → VK → Prop := fun vs H Q => ∃ (a : Addr) (xs : List Str), vs = [V.ref a] ∧ SqL K H a (xs.map V.str) ∧ ∀ p, H p = none → Q (.ref p) (upd H p (.lst ((xs.mergeSort leS).map V.str)))
theorem str_alike (xs : List Str) : PySem.W.AllAlike (xs.map PyData.str) := PySem.W.AllAlike.of fun b b' => by simp [PySem.W.alike]
theorem str_sortable (xs : List Str) : PySem.W.Sortable (xs.map PyData.str) := PySem.W.Sortable.others fun b => ⟨by simp, by simp⟩
theorem leS_eq : PySem.W.dataLe false PyData.str = leS := PySem.W.dataLe_str id
theorem cr_sortedStr {X : Cx} (hu : X.A.units + 64 < cLine) : CallR X (.builtin "sorted") (rSortedStr X.K) := by
  intro pins s σ H vs us Q I r h
  obtain ⟨a, xs, rfl, hs, q⟩ := h
  refine cr_sortedD (β := Str) (f := V.str) (enc := PyData.str) hu pins s σ H _ us Q I r ⟨a, xs, rfl, hs, fun b _ => .str b, str_alike xs, str_sortable xs, fun b _ => by simp [PyData.depth], fun p hp => ?_⟩
  rw [leS_eq]
  exact q p hp
theorem leS_trans {a b c : Str} (h1 : leS a b = true) (h2 : leS b c = true) : leS a c = true :=
  decide_eq_true (List.le_trans (of_decide_eq_true h1) (of_decide_eq_true h2))
theorem leS_total (a b : Str) : (leS a b || leS b a) = true := by
  rcases List.le_total a.cps.toList b.cps.toList with h | h
  · rw [show leS a b = true from decide_eq_true h]; rfl
  · rw [show leS b a = true from decide_eq_true h]; simp
theorem leS_antisymm {a b : Str} (h1 : leS a b = true) (h2 : leS b a = true) : a = b :=
  TL.ext_tl (List.le_antisymm (of_decide_eq_true h1) (of_decide_eq_true h2))
theorem sort_perm {xs ys : List Str} (h : xs.Perm ys) : xs.mergeSort leS = ys.mergeSort leS :=
  List.Perm.eq_of_pairwise (le := fun a b => leS a b = true) (fun a b _ _ => leS_antisymm) (List.pairwise_mergeSort (le := leS) (fun _ _ _ => leS_trans) leS_total xs) (List.pairwise_mergeSort (le := leS) (fun _ _ _ => leS_trans) leS_total ys)
    ((List.mergeSort_perm xs leS).trans (h.trans (List.mergeSort_perm ys leS).symm))
/-! ### set(texts), sorted(set) -/
def SetXO (w : World) (a : Addr) (L : List Str) : HO := .ext fun h => SetX w h a L
def rSetOfS (K : PySem.W.Frag) (w : World) : List V → Hp → VK → Prop := fun vs H Q => ∃ (a : Addr) (xs : List Str), vs = [V.ref a] ∧ SqL K H a (xs.map V.str) ∧ xs.length < 2000 ∧ ∀ p, H p = none → Q (.ref p) (upd H p (SetXO w p (addAllX [] xs)))
theorem setXO_new {w : World} {P : Program} {H : Hp} {h : Heap} {a : Addr} {L : List Str} (R : SetX w h a L) : ObjOk P w H h a (SetXO w a L) := ⟨R, R.len, fun _ _ p k => SetX.at p k⟩
theorem cr_setOfS {X : Cx} (hc : X.calm = true) : CallR X (.type "set") (rSetOfS X.K X.w) := by
  intro pins s σ H vs us Q I r h
  obtain ⟨a, xs, rfl, hs, hfew, q⟩ := h
  obtain ⟨its, rv, hl, hz⟩ := I.list hs
  rw [Vals.ref1 r]
  refine set_of_texts (I.ok.hd hc) hl.isList (by simpa using rv.strs) hfew fun h' tk R k => ?_
  exact ⟨.ref _, upd H s.heap.objs.size (SetXO X.w s.heap.objs.size (addAllX [] xs)), I.laid (t' := tk) k (Nat.le_refl _) (setXO_new R), rfl, q _ (I.hok.fresh (Nat.le_refl _))⟩
def rSortedSetS (w : World) : List V → Hp → VK → Prop := fun vs H Q => ∃ (a : Addr) (L : List Str), vs = [V.ref a] ∧ H a = some (SetXO w a L) ∧ ∀ p, H p = none → Q (.ref p) (upd H p (.lst ((L.mergeSort leS).map V.str)))
theorem strs_of_set {w : World} : ∀ (vs : List Value), (∀ v ∈ vs, ∃ x tk, v = Value.str x tk) → PySem.W.EachIs (fun v b => RelV (V.str b) v) vs (vs.map fun v => sKey (0, v))
  | [], _ => .nil
  | v :: vs, h => by
    obtain ⟨x, tk, rfl⟩ := h v List.mem_cons_self
    exact .cons ⟨tk, rfl⟩ (strs_of_set (w := w) vs fun u hu => h u (List.mem_cons_of_mem _ hu))
theorem sorted_setX {P : Program} {w : World} {A : Around} {E : Value → Shared → Prop} {s : Shared} {a : Addr} {L : List Str} {Q : Value → Shared → Prop} (R : SetX w s.heap a L) (hh : A.handled = none) (hu : A.units + 64 < cLine)
    (hQ : ∀ s' p (out : List Value) (c : Nat), (∀ b o, s.heap.get? b = some o → s'.heap.get? b = some o) → s'.gens = s.gens → s'.os = s.os → s.heap.objs.size ≤ p → s'.heap.get? p = some (seqObj "list" out.toArray c) →
      PySem.W.EachIs (fun v b => RelV (V.str b) v) out (L.mergeSort leS) → Q (.ref p) s') :
    wpAny (model P w) A (call (.builtin "sorted") [.ref a]) Q E s := by
  obtain ⟨o, es, ep, t, ho, hex, hd, g, pL, nd, hb, hf, hr, hl⟩ := R
  refine Calls.call_function_entry kind_sorted plain_sorted entry_sorted (args_sorted1 _) ?_
  unfold Builtin.«sorted»
  refine wpAny_bind (m := checkCount "sorted" 1 1 _) (wpAny_pure (wpAny_bind (collect_set (A := A.in1) hh ⟨o, ho, hex.1, hd⟩ hf hb hr hl fun s1 vs k1 hz g1 o1 pm => ?_)))
  have hvl : vs.length < scanBound := by
    rw [pm.length_eq, List.length_map, Array.length_toList]
    exact hb
  have hv : ∀ v ∈ vs, ∃ x tk, v = Value.str x tk := fun v hv => by
    obtain ⟨e, he, q⟩ := List.mem_map.mp (pm.mem_iff.mp hv)
    obtain ⟨x, tk, h1, _⟩ := g e he
    exact ⟨x, tk, by rw [← q]; exact h1⟩
  have hE := strs_of_set (w := w) vs hv
  have pk : (vs.map fun v => sKey (0, v)).Perm L := by
    have q := pm.map fun v => sKey (0, v)
    rw [List.map_map] at q
    exact q.trans pL
  have hline : vs.length ≤ sizeLine := by
    rw [sizeLine_eq]
    unfold scanBound at hvl
    omega
  refine wpAny_bind (wpAny_newList ?_ hline)
  have hoL : (s1.heap.push (seqObj "list" vs.toArray 0)).get? s1.heap.objs.size = some (seqObj "list" vs.toArray 0) := Heap.get?_push_size _ rfl
  have hu2 : A.in1.units = A.units + 1 ∨ A.in1.units ≤ A.units + 1 := by
    first
      | exact .inl rfl
      | exact .inr (Nat.le_refl _)
      | exact .inr (by simp [Around.in1, Around.units])
  refine wpAny_bind (wpAny_holding (PySem.W.list_sort_data (enc := PyData.str) hoL hE (each_of hE fun v b _ hr => ?_) (str_alike _) (str_sortable _) (by rw [List.length_map]; exact hline) (fun b _ => ?_) fun out h1 h2 => ?_))
  · obtain ⟨tk, rfl⟩ := hr
    exact ⟨[], .str b tk, by simp⟩
  · have hdep : (PyData.str b).depth = 0 := by simp [PyData.depth]
    rw [hdep]
    rcases hu2 with h | h <;> omega
  · obtain ⟨c, hc⟩ := sortedHeap_at (vs := vs) (out := out.toArray) hoL
    rw [leS_eq, sort_perm pk] at h2
    refine wpAny_pure ⟨_, rfl, hQ _ s1.heap.objs.size out c (fun b u e => ?_) g1 o1 hz hc h2⟩
    have q := k1 b u e
    have hlt := Heap.lt_size q
    show (sortedHeap (s1.heap.push (seqObj "list" vs.toArray 0)) s1.heap.objs.size vs out.toArray).get? b = some u
    rw [sortedHeap_old (Nat.ne_of_lt hlt) (by rw [Heap.size_push]; exact Nat.lt_succ_of_lt hlt)]
    exact Heap.get?_push_of_some _ q
theorem cr_sortedSetS {X : Cx} (hc : X.calm = true) (hu : X.A.units + 64 < cLine) : CallR X (.builtin "sorted") (rSortedSetS X.w) := by
  intro pins s σ H vs us Q I r h
  obtain ⟨a, L, rfl, ha, q⟩ := h
  rw [Vals.ref1 r]
  have R : SetX X.w s.heap a L := (I.hok a _ ha).1
  have hlen : L.length ≤ sizeLine := by
    obtain ⟨o, es, ep, t, ho, hex, hd, g, pL, nd, hb, _⟩ := R
    have q := pL.length_eq
    rw [List.length_map, Array.length_toList] at q
    unfold scanBound at hb
    rw [sizeLine_eq]
    omega
  refine sorted_setX R (I.ok.hd hc) hu fun s' p out c k1 g1 o1 hp hob hE => ?_
  have hl2 : ((L.mergeSort leS).map V.str).length ≤ sizeLine := by
    rw [List.length_map, List.length_mergeSort]
    exact hlen
  have hn : H p = none := I.hok.fresh hp
  have J : Inv X pins σ (upd H p (.lst ((L.mergeSort leS).map V.str))) { s with heap := s'.heap, gens := s'.gens, drawn := s'.drawn, toks := s'.toks } :=
    I.call (ch := []) (Un.laid k1 hp hn) (I.hok.laid k1 hp ⟨hl2, out, c, vals_each hE, hob⟩) (by rw [g1]; exact I.bare) (fun _ z => nomatch z)
  have e : s' = { s with heap := s'.heap, gens := s'.gens, drawn := s'.drawn, toks := s'.toks } := by
    cases s'
    cases s
    cases o1
    rfl
  rw [e]
  exact ⟨.ref p, _, J, rfl, q p hn⟩
end
section
/-! LoObj: instances of a known class, own len, iter and in, errors of own classes. -/
/-! ### fields of an instance of the class at C -/
def tFldC (C : Addr) (f : Str) (ta : TE) : TE := fun σ H Q => ta σ H fun x H1 => ∃ a dx fs v, x = .ref a ∧ H1 a = some (.ins C dx fs) ∧ fs.lookup f = some v ∧ Q v H1
def sFldC (C : Addr) (f : Str) (ta tv : TE) : TS := fun D σ H => tv σ H fun y H1 => ta σ H1 fun x H2 => ∃ a dx fs, x = .ref a ∧ H2 a = some (.ins C dx fs) ∧ fs.length < 1000 ∧ D.nx σ (upd H2 a (.ins C dx (putF f y fs)))
def sFldAugC (C : Addr) (f : Str) (rd : V → V → Hp → VK → Prop) (ta tv : TE) : TS := fun D σ H => ta σ H fun x H1 => ∃ a dx fs v, x = .ref a ∧ H1 a = some (.ins C dx fs) ∧ fs.lookup f = some v ∧
  tv σ H1 fun y H2 => rd v y H2 fun z H3 => ∃ dx' fs', H3 a = some (.ins C dx' fs') ∧ fs'.length < 1000 ∧ D.nx σ (upd H3 a (.ins C dx' (putF f z fs')))
section
variable {X : Cx} {C : Addr} {f : Str} {e o value : Expr} {ta tv : TE} {pos pos' tpos : Pos}
theorem pe_fldC (c : Cls X.K C) (n : NoAttr X.K C f) (he : PE X e ta) (hb : attributeBase e f X.env (eval e X.env) = eval e X.env := by rfl) : PE X (.Attribute e f pos) (tFldC C f ta) := by
  refine ⟨fun pins s σ H Q I h => ?_⟩
  refine attr_of hb (thn (he.run pins s σ H _ I h) fun u s1 ⟨x, H1, I1, rx, a, dx, fs, v, ex, ea, l, q⟩ => ?_)
  subst ex
  obtain rfl : u = Value.ref a := rx
  exact getattr_ok I1 ea c n l fun u' s2 I2 ru => ⟨v, H1, I2, ru, q⟩
theorem ps_fldC (c : Cls X.K C) (n : NoAttr X.K C f) (ha : PE X o ta) (hv : PE X value tv) (hs : swapsWith value (some (.Attribute o f pos')) pos.line X.env = pure false := by rfl) : PS X (.Assign [.Attribute o f pos'] value pos) (sFldC C f ta tv) := by
  refine ⟨fun pins s σ H D I h => ?_⟩
  refine plainObj_wpAny_Assign_Attribute (thn (hv.run pins s σ H _ I h) fun u s1 ⟨y, H1, I1, ry, q⟩ => thn (ha.run pins s1 σ H1 _ I1 q) fun ov s2 ⟨x, H2, I2, rx, a, dx, fs, ex, ea, l, q2⟩ => ?_) hs
  subst ex
  obtain rfl : ov = Value.ref a := rx
  exact setattr_ok I2 ea c n l ry fun s3 I3 => ⟨σ, _, I3, q2⟩
theorem ps_fldaugC {op : Operator} {rd : V → V → Hp → VK → Prop} (c : Cls X.K C) (n : NoAttr X.K C f) (ha : PE X o ta) (hv : PE X value tv) (hop : InOp X op rd) : PS X (.AugAssign (.Attribute o f tpos) op value pos) (sFldAugC C f rd ta tv) := by
  refine ⟨fun pins s σ H D I h => ?_⟩
  refine wpAny_AugAssign_AttributeAny (thn (ha.run pins s σ H _ I h) fun ov s1 ⟨x, H1, I1, rx, a, dx, fs, v, ex, ea, l, q⟩ => ?_)
  subst ex
  obtain rfl : ov = Value.ref a := rx
  refine getattr_ok I1 ea c n l fun u s2 I2 ru => thn (hv.run pins s2 σ H1 _ I2 q) fun w3 s3 ⟨y, H2, I3, ry, q3⟩ => thn (hop pins s3 σ H2 v y u w3 _ I3 ru ry q3) fun w4 s4 ⟨z, H3, I4, rz, dx', fs', ea', l', q4⟩ => ?_
  exact setattr_ok I4 ea' c n l' rz fun s5 I5 => ⟨σ, _, I5, q4⟩
end
/-! ### methods that may raise -/
def tMethS (C : Addr) (m : Str) (sp : Sp) (W : WX) (ta : TE) (t : TA) : TE := fun σ H Q => ta σ H fun x H1 => ∃ a dx fs, x = .ref a ∧ H1 a = some (.ins C dx fs) ∧ fs.lookup m = none ∧
  t σ H1 fun vs H2 => sp (x :: vs) H2 Q (WE W σ)
def tMakeS (C : Addr) (sp : Sp) (W : WX) (t : TA) : TE := fun σ H Q => t σ H fun vs H1 => ∀ x dx, H1 x = none → H1 dx = none → dx ≠ x →
  sp (.ref x :: vs) (upd (upd H1 dx (.own x)) x (.ins C dx [])) (fun v H2 => v = .non ∧ Q (.ref x) H2) (WE W σ)
def tPropS (C : Addr) (sp : Sp) (ta : TE) : TE := fun σ H Q => ta σ H fun x H1 => ∃ a dx fs, x = .ref a ∧ H1 a = some (.ins C dx fs) ∧ sp [.ref a] H1 Q fun _ _ _ => False
section
variable {X : Cx} {CX : CXT} {k : Nat} {f C : Addr} {fd : FuncData} {ps : List Str} {sp : Sp} {W : WX} {x m : Str} {p pos apos : Pos} {e o : Expr} {es : List Expr} {ta : TE} {t : TA}
theorem pe_methS {pl : Sem Bool} (he : PE X o ta) (c : Cls X.K C) (hm : Meth X.K C m f) (F : FnOk X.prog X.w X.K X.mg X.base CX k f fd ps sp) (hr : Room k X.A) (hb : Binds X.K fd ps []) (hx : ∀ σ, PassesAt CX X σ (WE W σ)) (ha : PA X (e :: es) t)
    (hst : starEach (e :: es) X.env = (false, eval e X.env) :: starEach es X.env := by rfl) (hpl : (backTo pos (starEach es X.env)).any (·.1) = false := by rfl)
    (ht : eval (.Call (.Attribute o m apos) (e :: es) [] pos) X.env = (do
      let ov ← eval o X.env
      standAt apos.atName
      let (f, first) ← holding [ov] (getMethod ov m pl)
      callWith pos f first (backTo pos (starEach (e :: es) X.env)) (backToKw pos (keywordEach [] X.env))) := by rfl) :
    PE X (.Call (.Attribute o m apos) (e :: es) [] pos) (tMethS C m sp W ta t) := by
  refine ⟨fun pins s σ H Q I h => ?_⟩
  refine PySem.W.methodCall_KW (pl := pl) (thn (he.run pins s σ H _ I h) fun u s1 ⟨x, H1, I1, rx, a, dx, fs, ex, ea, l, q⟩ => ?_) ht
  subst ex
  obtain rfl : u = Value.ref a := rx
  refine getmeth_ok I1 ea c hm l ?_
  refine PySem.W.callWith_K (first := [.ref a]) (h₀ := X.base) I.ok.mod.kin hm.kp (thn (ha.run pos pins s1 σ H1 _ I1 q) fun us s2 ⟨vs, H2, I2, r, q2⟩ => ⟨I2.kIn, ?_⟩) hst hpl
  exact run_fnS (E := WE W) (us := .ref a :: us) (vs := .ref a :: vs) F hr hb (hx σ) I2 (.cons rfl r) q2
theorem pe_methS0 {pl : Sem Bool} (he : PE X o ta) (c : Cls X.K C) (hm : Meth X.K C m f) (F : FnOk X.prog X.w X.K X.mg X.base CX k f fd ps sp) (hr : Room k X.A) (hb : Binds X.K fd ps []) (hx : ∀ σ, PassesAt CX X σ (WE W σ))
    (ht : eval (.Call (.Attribute o m apos) [] [] pos) X.env = (do
      let ov ← eval o X.env
      standAt apos.atName
      let (f, first) ← holding [ov] (getMethod ov m pl)
      callWith pos f first (backTo pos (starEach [] X.env)) (backToKw pos (keywordEach [] X.env))) := by rfl) :
    PE X (.Call (.Attribute o m apos) [] [] pos) (tMethS C m sp W ta tNil) := by
  refine ⟨fun pins s σ H Q I h => ?_⟩
  refine PySem.W.methodCall_KW (pl := pl) (thn (he.run pins s σ H _ I h) fun u s1 ⟨x, H1, I1, rx, a, dx, fs, ex, ea, l, q⟩ => ?_) ht
  subst ex
  obtain rfl : u = Value.ref a := rx
  refine getmeth_ok I1 ea c hm l ?_
  exact PySem.W.callWith_K0 (first := [.ref a]) I1.kIn hm.kp (run_fnS (E := WE W) (us := [.ref a]) (vs := [.ref a]) F hr hb (hx σ) I1 (.cons rfl .nil) q)
theorem pe_callS0 (F : FnOk X.prog X.w X.K X.mg X.base CX k f fd ps sp) (hr : Room k X.A) (hg : Gl X x) (hm : X.mg x = some (.ref f)) (hk : PySem.W.keepIn X.K (.ref f) = true) (hb : Binds X.K fd ps []) (hx : ∀ σ, PassesAt CX X σ (WE W σ))
    (hdb : (x == ("__debug__" : Str)) = false := by decide) : PE X (.Call (.Name x p) [] [] pos) (tCallS sp (WE W) tNil) := by
  refine ⟨fun pins s σ H Q I h => ?_⟩
  refine wpAny_Call_Name_kw (ld_glob I hg hm ?_ hdb)
  exact PySem.W.callWith_K0 I.kIn hk (run_fnS (E := WE W) (us := []) (vs := []) F hr hb (hx σ) I .nil h)
theorem run_makeS {pins : List (Addr × Obj)} {σ : L2.St} {H : Hp} {s : Shared} {Q : VK} {us : List Value} {vs : List V} (M : Mk X.K C f) (F : FnOk X.prog X.w X.K X.mg X.base CX k f fd ps sp) (hr : Room (k + 1) X.A) (hb : Binds X.K fd ps [])
    (hx : PassesAt CX X σ (WE W σ)) (I : Inv X pins σ H s) (r : Vals vs us)
    (h : ∀ x dx, H x = none → H dx = none → dx ≠ x → sp (.ref x :: vs) (upd (upd H dx (.own x)) x (.ins C dx [])) (fun v H2 => v = .non ∧ Q (.ref x) H2) (WE W σ)) :
    wpAny (model X.prog X.w) X.A (call (.ref C) us) (EP X pins σ Q) X.xe s := by
  have hq := h (s.heap.objs.size + 1) s.heap.objs.size (I.hok.fresh (Nat.le_succ _)) (I.hok.fresh (Nat.le_refl _)) (Nat.ne_of_lt (Nat.lt_succ_self _))
  have I2 := Inv.made (C := C) I
  have r2 : Vals (V.ref (s.heap.objs.size + 1) :: vs) (Value.ref (s.heap.objs.size + 1) :: us) := .cons rfl r
  have hl : (Value.ref (s.heap.objs.size + 1) :: us).length = ps.length := by
    have e := r2.length
    rw [F.len _ _ _ _ hq] at e
    exact e.symm
  have b := hb _ (Value.ref (s.heap.objs.size + 1) :: us) I2.kIn (by rw [List.append_nil]; exact hl)
  rw [List.append_nil] at b
  refine wpAny_call (make_map (f := f) I.kIn M.makes M.init (beq_iff_eq.mp M.fn) (codeAny_mono (F.run _ X.stack _ _ ⟨Value.ref (s.heap.objs.size + 1) :: us, []⟩ (Value.ref (s.heap.objs.size + 1) :: us) _ _ (WE W σ) (hr.make C us [])
    (I2.env0.make C us []) b r2 hq) fun r s' hq' => ?_))
  cases r with
  | error e => exact hx pins _ _ e s' I2 hq'
  | ok fl =>
    cases fl with
    | ret u =>
      obtain ⟨v, H', I3, rv, ev, q3⟩ := I2.after hq'
      subst ev
      exact ⟨rv, ⟨V.ref (s.heap.objs.size + 1), H', I3, rfl, q3⟩⟩
    | next => exact False.elim hq'
    | brk => exact False.elim hq'
    | cont => exact False.elim hq'
theorem pe_makeS (M : Mk X.K C f) (F : FnOk X.prog X.w X.K X.mg X.base CX k f fd ps sp) (hr : Room (k + 1) X.A) (hg : Gl X x) (hm : X.mg x = some (.ref C)) (hb : Binds X.K fd ps []) (hx : ∀ σ, PassesAt CX X σ (WE W σ))
    (ha : PA X (e :: es) t) (hdb : (x == ("__debug__" : Str)) = false := by decide) (he : starEach (e :: es) X.env = (false, eval e X.env) :: starEach es X.env := by rfl) (hpl : (backTo pos (starEach es X.env)).any (·.1) = false := by rfl) :
    PE X (.Call (.Name x p) (e :: es) [] pos) (tMakeS C sp W t) := by
  refine ⟨fun pins s σ H Q I h => ?_⟩
  refine wpAny_Call_Name_kw (ld_glob I hg hm ?_ hdb)
  refine PySem.W.callWith_K (h₀ := X.base) I.ok.mod.kin M.kp (thn (ha.run pos pins s σ H _ I h) fun us s1 ⟨vs, H1, I1, r, q⟩ => ⟨I1.kIn, ?_⟩) he hpl
  exact run_makeS M F hr hb (hx σ) I1 r q
end
/-- a promise kept without errors is passed on to any wish -/
theorem passAt0 {X : Cx} {E : L2.St → XK} (σ : L2.St) : PassesAt CX0 X σ (E σ) := fun _ _ _ _ _ _ h => h.elim
/-! ### raise -/
def tRaise (C : Addr) (W : WX) : TS := fun _ σ H => W (.ref C) none σ H
theorem ps_raiseC {X : Cx} {W : WX} {C : Addr} {x m : Str} {j : Nat} {p p2 pos pos2 : Pos} (hc : X.calm = true) (tk : Takes X W)
    (q : PySem.W.excIn X.K C He.veBase "ValueError.__new__" = true ∧ PySem.W.keepIn X.K (.ref C) = true ∧ PySem.W.subIn X.K (.ref C) (.type "BaseException") = some true ∧ PySem.W.typeIn X.K (.ref C) = some (.type "type"))
    (gC : X.mg x = some (.ref C)) (hg : Gl X x) (hdb : (x == ("__debug__" : Str)) = false := by decide) :
    PS X (.Raise (some (.Call (.Name x p) [.Constant (.str m) j p2] [] pos)) none pos2) (tRaise C W) :=
  ps_raise hc tk (pmk_own PySem.F.excBase_ValueError q.1 gC q.2.1 (raises_own q.2.2.1 q.2.2.2) hg hdb)
/-! ### len, in of an own class -/
def rLenO (C : Addr) (sp : Sp) : List V → Hp → VK → Prop := fun xs H Q => ∃ a dx fs, xs = [.ref a] ∧ H a = some (.ins C dx fs) ∧ sp [.ref a] H (fun v H' => ∃ n : Nat, v = .int n ∧ n < 2 ^ 63 ∧ Q (.int n) H') fun _ _ _ => False
def rInO (C : Addr) (sp : Sp) (neg : Bool) : R2 := fun x y H Q => ∃ a dx fs, y = .ref a ∧ H a = some (.ins C dx fs) ∧ sp [.ref a, x] H (fun v H' => ∃ b : Bool, v = .bl b ∧ Q (.bl (b != neg)) H') fun _ _ _ => False
section
variable {X : Cx} {k : Nat} {f C : Addr} {fd : FuncData} {ps : List Str} {sp : Sp} {E : XK}
theorem call_lenO (hm : Meth X.K C "__len__" f) (F : FnOk X.prog X.w X.K X.mg X.base CX0 k f fd ps sp) (hr : Room (k + 1) X.A) (hb : Binds X.K fd ps []) : CallR X (.builtin "len") (rLenO C sp) := by
  intro pins s σ H xs us Q I r h
  obtain ⟨a, dx, fs, rfl, ea, h⟩ := h
  obtain ⟨u, rfl, ru⟩ := vals1 r
  cases ru
  obtain ⟨mA, O, _⟩ := ins_get I.hok ea
  obtain ⟨od, J, _⟩ := O.look
  obtain ⟨m, hF⟩ := I.fr
  have b := hb s [.ref a] I.kIn (by rw [List.append_nil, ← F.len _ _ _ _ h]; rfl)
  rw [List.append_nil] at b
  refine PySem.W.len_K hF I.ok.mod.kin J hm.at_ hm.fn (wpAny_call (codeAny_mono (F.run X.A.in1 X.stack s H ⟨[.ref a], []⟩ [.ref a] [.ref a] _ _ hr.in1 I.env0.in1 b (.cons rfl .nil) h) fun r s' hq => ?_))
  cases r with
  | error e => exact hq.elim
  | ok fl =>
    cases fl with
    | ret u =>
      obtain ⟨v, H', I3, rv, n, rfl, hn, q⟩ := I.after hq
      obtain ⟨t, rfl⟩ := rv
      exact ⟨⟨Int.natCast_nonneg _, by omega⟩, ⟨.int n, H', I3.tok _, ⟨_, rfl⟩, q⟩⟩
    | next => exact False.elim hq
    | brk => exact False.elim hq
    | cont => exact False.elim hq
theorem op_inO (neg : Bool) (hm : Meth X.K C "__contains__" f) (F : FnOk X.prog X.w X.K X.mg X.base CX0 k f fd ps sp) (hr : Room k X.A) (hb : Binds X.K fd ps []) : OpR X (compareOp (if neg then .NotIn else .In)) (rInO C sp neg) := by
  intro pins s σ H x y v u Q I rx ry h
  obtain ⟨a, dx, fs, rfl, ea, h⟩ := h
  cases ry
  obtain ⟨mA, O, _⟩ := ins_get I.hok ea
  obtain ⟨od, J, _⟩ := O.look
  obtain ⟨m, hF⟩ := I.fr
  have b := hb s [.ref a, v] I.kIn (by rw [List.append_nil, ← F.len _ _ _ _ h]; rfl)
  rw [List.append_nil] at b
  have go : ∀ {Q' : Value → Shared → Prop}, (∀ b H' s', Inv X pins σ H' s' → Q (.bl (b != neg)) H' → Q' (.bool b) s') → wpAny (model X.prog X.w) X.A (call (.ref f) [.ref a, v]) Q' X.xe s := fun {Q'} hQ =>
    wpAny_call (codeAny_mono (F.run X.A X.stack s H ⟨[.ref a, v], []⟩ [.ref a, v] [.ref a, x] _ _ hr I.env0 b (.cons rfl (.cons rx .nil)) h) fun r s' hq => by
      cases r with
      | error e => exact hq.elim
      | ok fl =>
        cases fl with
        | ret u =>
          obtain ⟨v', H', I3, rv, n, rfl, q⟩ := I.after hq
          cases rv
          exact hQ n H' s' I3 q
        | next => exact False.elim hq
        | brk => exact False.elim hq
        | cont => exact False.elim hq)
  cases neg with
  | false =>
    refine PySem.W.in_K hF I.ok.mod.kin J hm.at_ hm.fn (go fun b H' s' I' q => ?_)
    refine wpAny_truthy_bool ?_
    refine ⟨.bl b, H', I', rfl, ?_⟩
    simpa using q
  | true =>
    refine PySem.W.notIn_K hF I.ok.mod.kin J hm.at_ hm.fn (go fun b H' s' I' q => ?_)
    refine wpAny_truthy_bool ?_
    refine ⟨.bl (!b), H', I', rfl, ?_⟩
    simpa using q
end
/-! ### iter, and own classes that give an iterator -/
/-- it is a new iterator that walks as J says -/
def FreshIt (P : Program) (w : World) (K : PySem.W.Frag) (it : Addr) (J : It) : HO :=
  .ext fun h => (∃ tn : Nat → Heap → Prop, (∀ tg, Turn P w K tg J [it] it tn) ∧ tn 0 h) ∧ ∃ (o : Obj) (T : String) (g : Value), h.get? it = some o ∧ o.cls = .type T ∧ typeLookup (.type T) "__next__" = pure (some g)
theorem freshIt_ok {P : Program} {w : World} {K : PySem.W.Frag} {H : Hp} {h : Heap} {it : Addr} {J : It} (e : (∃ tn : Nat → Heap → Prop, (∀ tg, Turn P w K tg J [it] it tn) ∧ tn 0 h) ∧ ∃ (o : Obj) (T : String) (g : Value), h.get? it = some o ∧ o.cls = .type T ∧ typeLookup (.type T) "__next__" = pure (some g)) :
    ObjOk P w H h it (FreshIt P w K it J) := by
  refine ⟨e, ?_, fun h1 h2 q k => ?_⟩
  · obtain ⟨_, o, T, g, ho, _⟩ := e
    exact ⟨o, ho⟩
  · obtain ⟨⟨tn, ht, h0⟩, o, T, g, ho, r⟩ := q
    exact ⟨⟨tn, ht, (ht (.Constant .none 0 ⟨0, 0, 0, 0⟩)).keep 0 h1 h2 h0 fun b hb o' e' => by
      have eb : b = it := by simpa using hb
      subst eb
      exact k _ e'⟩, o, T, g, k _ ho, r⟩
/-- the promise of such an __iter__: n, how great the heap was -/
structure FnOkN (P : Program) (w : World) (K : PySem.W.Frag) (mg : Str → Option Value) (base : Heap) (k : Nat) (f : Addr) (fd : FuncData) (ps : List Str) (sp : Nat → Sp) : Prop where
  len : ∀ n vs H Q E, sp n vs H Q E → vs.length = ps.length
  run : ∀ (A : Around) (outer : List Env) (s : Shared) (H : Hp) (args : Args) (us : List Value) (vs : List V) (Q : VK) (E : XK), Room k A → Env0 P w K mg base A outer s H → BindsTo s fd args (ps.zip us) → Vals vs us → sp s.heap.objs.size vs H Q E →
    codeAny (model P w) A (.call (.ref f) args) (CR CX0 outer P w H s Q E) s
theorem FunD.okN {P : Program} {w : World} {K : PySem.W.Frag} {mg : Str → Option Value} {base : Heap} {x qual : Str} {params : Arguments} {body : List Stmt} {scope : Scope} {f : Addr} {fd : FuncData} {N ps : List Str} {k : Nat} {sp : Nat → Sp}
    (F : FunD K x qual params body scope [] [] f fd) (S : FnScope N ps scope) (len : ∀ n vs H Q E, sp n vs H Q E → vs.length = ps.length)
    (hbody : ∀ (cdv : Value) (A : Around) (outer : List Env) (s : Shared) (H : Hp) (vs : List V) (Q : VK) (E : XK), Room k (A.deeper (envOfC qual scope s.heap.objs.size f cdv)) → sp s.heap.objs.size vs H Q E →
      ∃ t, PSs (cxOf CX0 P w K mg base N qual scope f cdv A outer s H E) body t ∧ t { nx := fun _ H' => Q .non H', rt := Q } (L2.start N vs) H) : FnOkN P w K mg base (k + 1) f fd ps sp := by
  refine ⟨len, fun A outer s H args us vs Q E hr e0 hb r hsp => ?_⟩
  obtain ⟨oc, od, dV, kV, doc, pm, an, cdv, ct, osl, rfl, lk, hcd, _, _⟩ := F.ex
  have hl := len _ _ _ _ _ hsp
  have KX : K.In s.heap := e0.mod.kin.keeps fun b o e => (e0.bs b o e).1
  have lim : s.heap.NoLimit := e0.mod.nolimit.keeps fun b o e => (e0.bs b o e).1
  have hkind : ∀ y ∈ ps.zip us, scope.names.lookup y.1 = some .local ∨ (scope.names.lookup y.1 = some .cell ∧ ((cellsFrom (s.heap.objs.size + 1) scope.names []).lookup y.1).isSome = true) := fun ⟨n, v⟩ hy => by
    rcases S.par n (List.of_mem_zip hy).1 with q | q
    · exact .inl q
    · exact .inr ⟨q, PySem.W.cellsFrom_some _ _ _ (.inl q)⟩
  refine codeAny_call_function hr.depth (KX _ _ lk) rfl S.co S.gen rfl (PySem.W.codeRec_of KX hcd) (hb _ _ _ _ ?_)
  refine wpAny_newFunctionEnv_cells S.kind hkind fun env he s1 x => ?_
  subst he
  refine ⟨lim.keeps x.toInCall.keep, codeAny_func ?_⟩
  obtain ⟨t, ht, hq⟩ := hbody cdv A outer s H vs Q E (hr.deeper _) hsp
  have I := inv_start (CX := CX0) (E := E) S hr.hd e0 hl r x
  refine wpAny_mono (ht.run [] s1 (L2.start N vs) H _ I hq) (fun fl s' hs => ?_) fun e s' hs => hs
  have fin : ∀ {σ' : L2.St} {H' : Hp} {v : V} {u : Value}, Inv (cxOf CX0 P w K mg base N qual scope f cdv A outer s H E) [] σ' H' s' → RelV v u → Q v H' → CE outer P w H s Q u s' :=
    fun {σ' H' v u} J rv q => ⟨v, H', J.os, J.bare, J.base, J.hok, rv, q⟩
  cases fl with
  | ret u =>
    obtain ⟨v, σ', H', J, rv, q⟩ := hs
    exact fin J rv q
  | next =>
    obtain ⟨σ', H', J, q⟩ := hs
    exact fin (v := V.non) (u := Value.none) J rfl q
  | brk =>
    obtain ⟨_, _, _, q⟩ := hs
    exact False.elim q
  | cont =>
    obtain ⟨_, _, _, q⟩ := hs
    exact False.elim q

def rIterD (P : Program) (w : World) (K : PySem.W.Frag) (n : Nat) : List V → Hp → VK → Prop := fun xs H Q => ∃ d o kvs, xs = [.ref d] ∧ H d = some (.frz o (.dK kvs)) ∧ ∀ it, H it = none → n ≤ it → Q (.ref it) (upd H it (FreshIt P w K it (Itk d o kvs)))
def rIterLs (P : Program) (w : World) (K : PySem.W.Frag) (n : Nat) : List V → Hp → VK → Prop := fun xs H Q => ∃ l zs, xs = [.ref l] ∧ SqL K H l zs ∧ ∀ it, H it = none → n ≤ it → Q (.ref it) (upd H it (FreshIt P w K it (Itl K l)))
def iOwn (P : Program) (w : World) (K : PySem.W.Frag) (C : Addr) (sp : Nat → Sp) (te : TE) : TI := fun σ H R => te σ H fun x H1 => ∃ a dx fs, x = .ref a ∧ H1 a = some (.ins C dx fs) ∧
  ∀ n, sp n [.ref a] H1 (fun v H' => ∃ it J, v = .ref it ∧ H' it = some (FreshIt P w K it J) ∧ n ≤ it ∧ R J (ItX.dropH H' it)) fun _ _ _ => False
section
variable {X : Cx}
theorem call_iter_any {prog : Program} {w : World} {A : Around} {E : Value → Shared → Prop} {s : Shared} {v : Value} {Q : Value → Shared → Prop} (h : wpAny (model prog w) A.in1 (pyIter v) Q E s) : wpAny (model prog w) A (call (.builtin "iter") [v]) Q E s := by
  refine Calls.call_function_entry (by decide +kernel) (by decide +kernel) PySem.W.kdk_entry_iter (PySem.W.kdk_args_iter _) ?_
  unfold Builtin.«iter»
  refine wpAny_bind (m := someArgs "iter" 1 2 _) (wpAny_of_eq (a := [v]) (by first | rfl | kernel_rfl!) ?_)
  show wpAny _ _ (pyIter v >>= _) _ _ _
  exact wpAny_bind (thn h fun u s' q => wpAny_pure ⟨_, rfl, q⟩)
theorem call_iterD : CallR X (.builtin "iter") (rIterD X.prog X.w X.K X.s_0.heap.objs.size) := by
  intro pins s σ H xs us Q I r h
  obtain ⟨d, o, kvs, rfl, hd, q⟩ := h
  obtain ⟨u, rfl, ru⟩ := vals1 r
  cases ru
  obtain ⟨hs, hgd, hx, es, ep, vs, hdt, hsz, kv, hm⟩ := I.frzK hd
  refine call_iter_any (iter_keys hs hgd hx hdt ?_)
  refine ⟨.ref s.heap.objs.size, _, I.laid (t' := s.toks) (fun b u e => Heap.get?_push_of_some _ e) (Nat.le_refl _) (freshIt_ok ⟨⟨_, fun tg => turn_keys _ hdt, ⟨_, Heap.get?_push_size _ rfl, rfl, ?_⟩⟩, _, _, _, Heap.get?_push_size _ rfl, rfl, F.slot_dict_keyiterator_next.lookup⟩), rfl, q _ (I.hok.fresh (Nat.le_refl _)) I.sz⟩
  rw [hsz] <;> rfl
theorem call_iterLs : CallR X (.builtin "iter") (rIterLs X.prog X.w X.K X.s_0.heap.objs.size) := by
  intro pins s σ H xs us Q I r h
  obtain ⟨l, zs, rfl, hq, q⟩ := h
  obtain ⟨u, rfl, ru⟩ := vals1 r
  cases ru
  obtain ⟨its, rv, pl, hz⟩ := I.list hq
  refine call_iter_any (wpAny_pyIter_list pl.isList ?_)
  exact ⟨.ref s.heap.objs.size, _, I.laid (t' := s.toks) (fun b u e => Heap.get?_push_of_some _ e) (Nat.le_refl _) (freshIt_ok ⟨⟨_, fun tg => turn_list l _, ⟨_, Heap.get?_push_size _ rfl, rfl, rfl⟩⟩, _, _, _, Heap.get?_push_size _ rfl, rfl, PySem.slot_listiter_next.lookup⟩), rfl, q _ (I.hok.fresh (Nat.le_refl _)) I.sz⟩
variable {k : Nat} {f C : Addr} {fd : FuncData} {ps : List Str} {sp : Nat → Sp} {tg e : Expr} {te : TE}
theorem pi_own (hm : Meth X.K C "__iter__" f) (F : FnOkN X.prog X.w X.K X.mg X.base k f fd ps sp) (hr : Room k X.A) (hb : Binds X.K fd ps []) (he : PE X e te) : PI X tg e (iOwn X.prog X.w X.K C sp te) := by
  refine ⟨fun pins s σ H R I h => ?_⟩
  refine thn (he.run pins s σ H _ I h) fun u s1 ⟨x, H1, I1, rx, a, dx, fs, ex, ea, h1⟩ => ?_
  subst ex
  cases rx
  obtain ⟨mA, O, _⟩ := ins_get I1.hok ea
  obtain ⟨od, J, _⟩ := O.look
  obtain ⟨m, hF⟩ := I1.fr
  have h2 := h1 s1.heap.objs.size
  have b := hb s1 [.ref a] I1.kIn (by rw [List.append_nil, ← F.len _ _ _ _ _ h2]; rfl)
  rw [List.append_nil] at b
  refine PySem.W.owit_iter hF I1.ok.mod.kin J hm.at_ hm.fn (wpAny_call (codeAny_mono (F.run X.A X.stack s1 H1 ⟨[.ref a], []⟩ [.ref a] [.ref a] _ _ hr I1.env0 b (.cons rfl .nil) h2) fun r s' hq => ?_))
  cases r with
  | error e => exact hq.elim
  | ok fl =>
    cases fl with
    | ret u =>
      obtain ⟨v, H', I3, rv, it, J, rfl, hi, hn, q⟩ := I1.after hq
      cases rv
      have ho : ObjOk X.prog X.w H' s'.heap it (FreshIt X.prog X.w X.K it J) := I3.hok it _ hi
      obtain ⟨⟨⟨tn, ht, h0⟩, o, T, g, hit, hc, hl⟩, _⟩ := ho
      unfold PySem.W.OwitIt
      refine wpAny_specialOf (T := T) (name := Str.ofString "__next__") ⟨o, hit, hc⟩ hl ?_
      refine ⟨it, [it], tn, J, _, rfl, ItX.inv_drop I3 hi, ht tg, h0, fun b hb => ?_, q⟩
      have e : b = it := by simpa using hb
      rw [e]
      exact ItX.inv_fp I3 hi (Nat.le_trans I1.sz hn)
    | next => exact False.elim hq
    | brk => exact False.elim hq
    | cont => exact False.elim hq
end
end
section
/-! LoHook: what the end leans on, any Bool of the written part; defs at any address; tables. -/
abbrev Frg : Type := PySem.W.Frag
abbrev FaX : Type := Frg → Bool
structure DefX where
  adr : Frg → Addr
  name : Str
  qual : Str
  params : Arguments
  body : List Stmt
  scope : Scope
  dfl : List He.Dv := []
  kwd : List (Str × He.Dv) := []
def fnWx (K : Frg) (f : Addr) : He.FnW := match K.lookup f with
  | some ⟨_, _, .func fd, _⟩ => some (fd.name, fd.qualname, fd.params, fd.body, fd.scope, fd.globals, fd.closure, fd.builtins)
  | _ => none
def DefX.val (d : DefX) : He.FnW := some (d.name, d.qual, d.params, .stmts d.body, d.scope, mainGlobals, [], builtinsNs)
def DefX.dvs (K : Frg) (d : DefX) : List V := d.dfl.map (He.Dv.v K)
def DefX.kws (K : Frg) (d : DefX) : List (Str × V) := d.kwd.map fun q => (q.1, q.2.v K)
def DefX.ok (K : Frg) (d : DefX) : Bool := PySem.W.keepIn K (.ref (d.adr K)) && (match K.lookup (d.adr K) with
  | some ⟨_, _, .func fd, _⟩ => PySem.W.codeIn K fd.code d.qual && (He.dflB K fd.defaults (d.dvs K) && He.kwdB K fd.kwdefaults (d.kws K))
  | _ => false)
theorem DefX.funD {K : Frg} {d : DefX} (e : fnWx K (d.adr K) = d.val) (c : d.ok K = true) : ∃ fd, FunD K d.name d.qual d.params d.body d.scope (d.dvs K) (d.kws K) (d.adr K) fd := by
  obtain ⟨kp, c2⟩ := He.ba c
  unfold fnWx at e
  cases q : K.lookup (d.adr K) with
  | none => rw [q] at c2; cases c2
  | some o =>
    obtain ⟨oc, od, dt, osl⟩ := o
    rw [q] at c2 e
    cases dt with
    | func fd =>
      obtain ⟨n1, n2, n3, n4, n5, n6, n7, n8, n9, n10, n11, n12, n13, n14, n15⟩ := fd
      have e2 : (some (n1, n2, n3, n4, n5, n6, n7, n15) : He.FnW) = some (d.name, d.qual, d.params, .stmts d.body, d.scope, mainGlobals, [], builtinsNs) := e
      simp only [Option.some.injEq, Prod.mk.injEq] at e2
      obtain ⟨h1, h2, h3, h4, h5, h6, h7, h8⟩ := e2
      subst h1 h2 h3 h4 h5 h6 h7 h8
      have c3 : (PySem.W.codeIn K n13 d.qual && (He.dflB K n8 (d.dvs K) && He.kwdB K n9 (d.kws K))) = true := c2
      obtain ⟨k1, k2⟩ := He.ba c3
      obtain ⟨k3, k4⟩ := He.ba k2
      exact ⟨_, ⟨oc, od, n8, n9, n10, n11, n12, n13, n14, osl, rfl, q, k1, He.dflB_ok k3, He.kwdB_ok k4⟩, kp⟩
    | _ => cases c2
abbrev AlX : Type := (Bool × List He.FnW) × List (Option (List (Option (Str × Int))))
def obsX (fa : List FaX) (fn : List DefX) (ts : List He.Tab) (K : Frg) : AlX := (((fa.all fun f => f K) && fn.all fun d => d.ok K, fn.map fun d => fnWx K (d.adr K)), ts.map fun t => He.dicW K (t.1 K))
def valX (fn : List DefX) (ts : List He.Tab) (w : World) : AlX := ((true, fn.map DefX.val), ts.map fun t => some (He.keysIn w.params t.2))
def obsXG (n : Nat) (fa : List FaX) (fn : List DefX) (ts : List He.Tab) (g : Addr → Option Obj) : AlX := obsX fa fn ts (He.frG g (He.asD g n))
def SaysX (fa : List FaX) (fn : List DefX) (ts : List He.Tab) (w : World) (K : Frg) : Prop := obsX fa fn ts K = valX fn ts w
def hookX (n : Nat) (fa : List FaX) (fn : List DefX) (ts : List He.Tab) : PySem.W.Hook where
  α := AlX
  obs := fun s => obsXG n fa fn ts s.heap.get?
  val := fun w => valX fn ts w
  says := fun w h => ∃ K : Frg, K.In h ∧ SaysX fa fn ts w K
  of := fun _ _ e => ⟨_, He.frG_in, e⟩
  keeps := fun _ _ _ ⟨K, hK, c⟩ k => ⟨K, PySem.W.Frag.In.keeps hK k, c⟩
theorem obsXG_eq {n : Nat} {fa : List FaX} {fn : List DefX} {ts : List He.Tab} {g : Addr → Option Obj} {s : Shared} (h : ∀ a, g a = s.heap.get? a) : obsXG n fa fn ts g = (hookX n fa fn ts).obs s := by
  have e : g = s.heap.get? := funext h
  rw [e] <;> rfl
section
variable {fa : List FaX} {fn : List DefX} {ts : List He.Tab} {w : World} {K : Frg}
theorem SaysX.fact (c : SaysX fa fn ts w K) (i : Nat) {f : FaX} (h : fa[i]? = some f := by rfl) : f K = true := by
  have c1 := (He.ba (show ((fa.all fun f => f K) && fn.all fun d => d.ok K) = true from congrArg (fun z : AlX => z.1.1) c)).1
  exact List.all_eq_true.mp c1 f (List.mem_of_getElem? h)
theorem SaysX.def_ (c : SaysX fa fn ts w K) (i : Nat) {d : DefX} (h : fn[i]? = some d := by rfl) : ∃ fd, FunD K d.name d.qual d.params d.body d.scope (d.dvs K) (d.kws K) (d.adr K) fd := by
  have c2 := (He.ba (show ((fa.all fun f => f K) && fn.all fun d => d.ok K) = true from congrArg (fun z : AlX => z.1.1) c)).2
  have e : fn.map (fun d => fnWx K (d.adr K)) = fn.map DefX.val := congrArg (fun z : AlX => z.1.2) c
  have e2 : (fn.map fun d => fnWx K (d.adr K))[i]? = (fn.map DefX.val)[i]? := by rw [e]
  rw [List.getElem?_map, List.getElem?_map, h] at e2
  exact DefX.funD (Option.some.inj e2) (List.all_eq_true.mp c2 d (List.mem_of_getElem? h))
theorem SaysX.tab (c : SaysX fa fn ts w K) (i : Nat) {t : He.Tab} (h : ts[i]? = some t := by rfl) : ∃ es n, KDict K w (t.1 K) es n := by
  have e : ts.map (fun t => He.dicW K (t.1 K)) = ts.map fun t => some (He.keysIn w.params t.2) := congrArg (fun z : AlX => z.2) c
  have e2 : (ts.map fun t => He.dicW K (t.1 K))[i]? = (ts.map fun t => some (He.keysIn w.params t.2))[i]? := by rw [e]
  rw [List.getElem?_map, List.getElem?_map, h] at e2
  exact He.dicW_ok (Option.some.inj e2)
end
/-! ### properties -/
def proAd (C f : Str) (K : Frg) : Addr := He.ma K (He.ga K C) f
def getAd (C f : Str) (K : Frg) : Addr := match PySem.W.recIn K (proAd C f K) "property" with
  | some (.ref g :: _) => g
  | _ => 0
def proB (C f : Str) (K : Frg) : Bool := He.eqO (PySem.W.findIn K (.ref (He.ga K C)) f) (some (some (.ref (proAd C f K)))) && (He.eqO (PySem.W.specialIn K (.ref (proAd C f K)) "__get__") (some (some (.builtin "property.__get__"))) &&
  (decide (PySem.W.takesIn K (.ref (proAd C f K)) = some true) && (match PySem.W.recIn K (proAd C f K) "property" with
    | some (.ref g :: _) => true
    | _ => false)))
theorem pro_ok {C f : Str} {K : Frg} (c : proB C f K = true) : PropOf K (He.ga K C) f (proAd C f K) (getAd C f K) := by
  obtain ⟨c1, c⟩ := He.ba c
  obtain ⟨c2, c⟩ := He.ba c
  obtain ⟨c3, c4⟩ := He.ba c
  refine ⟨He.eqO_ok c1, He.eqO_ok c2, of_decide_eq_true c3, ?_⟩
  unfold getAd
  cases e : PySem.W.recIn K (proAd C f K) "property" with
  | none => rw [e] at c4; cases c4
  | some l =>
    rw [e] at c4
    cases l with
    | nil => cases c4
    | cons v r =>
      cases v with
      | ref g => exact ⟨r, rfl⟩
      | _ => cases c4
/-! ### errors -/
def ercB (C : Str) (K : Frg) : Bool := He.eqO (PySem.W.findIn K (.ref (He.ga K C)) "__getattribute__") (some (some (.builtin "BaseException.__getattribute__"))) && (He.eqO (PySem.W.findIn K (.ref (He.ga K C)) "__getattr__") (some none) &&
  (decide (PySem.W.subIn K (.ref (He.ga K C)) (.type "BaseException") = some true) && (PySem.W.hasDictIn K (He.ga K C) && (He.eqO (PySem.W.findIn K (.ref (He.ga K C)) "__class__") (some (some (.builtin "object.__class__"))) &&
  (He.eqO (PySem.W.specialIn K (.builtin "object.__class__") "__get__") (some (some (.builtin "getset_descriptor.__get__"))) && (decide (PySem.W.takesIn K (.builtin "object.__class__") = some true) && decide (PySem.W.mroIn K (He.ga K C) (.type "object") = some true)))))))
theorem erc_ok {C : Str} {K : Frg} (c : ercB C K = true) : ExcC K (He.ga K C) := by
  obtain ⟨c1, c⟩ := He.ba c
  obtain ⟨c2, c⟩ := He.ba c
  obtain ⟨c3, c⟩ := He.ba c
  obtain ⟨c4, c⟩ := He.ba c
  obtain ⟨c5, c⟩ := He.ba c
  obtain ⟨c6, c⟩ := He.ba c
  obtain ⟨c7, c8⟩ := He.ba c
  exact ⟨He.eqO_ok c1, He.eqO_ok c2, of_decide_eq_true c3, c4, He.eqO_ok c5, He.eqO_ok c6, of_decide_eq_true c7, of_decide_eq_true c8⟩
/-- classes by names: an own one, or a built-in one -/
inductive Cn where
  | own (x : Str)
  | ty (n : String)
def Cn.val (K : Frg) : Cn → Value
  | .own x => .ref (He.ga K x)
  | .ty n => .type n
def Cn.v (K : Frg) : Cn → V
  | .own x => .ref (He.ga K x)
  | .ty n => .ty n
theorem Cn.is {K : Frg} : ∀ c : Cn, ClsV (c.v K) (c.val K)
  | .own x => .own _
  | .ty n => .ty n
def kitB (D : Str) (cs : List Cn) (b : Bool) (K : Frg) : Bool := decide (PySem.W.kitAny K (.ref (He.ga K D)) (cs.map (Cn.val K)) = some b)
def kit1B (D : Str) (c : Cn) (b : Bool) (K : Frg) : Bool := decide (PySem.W.kitOne K (.ref (He.ga K D)) (c.val K) = some b)
/-- isinstance(e, c), e the caught error -/
def rIsE1 (K : Frg) (a : Addr) (cls : Value) (d : Option Addr) (tbl : List (Str × Bool)) : List V → Hp → VK → Prop := fun xs H Q => ∃ (D : Str) (b : Bool) (v : V), (D, b) ∈ tbl ∧ cls = .ref (He.ga K D) ∧ d = none ∧ xs = [.ref a, v] ∧ Q (.bl b) H
section
variable {X : Cx}
theorem call_isE1 {a : Addr} {oe : Obj} {cls : Value} {d : Option Addr} {pn : List (Addr × Obj)} {c : Cn} {tbl : List (Str × Bool)} (hT : ∀ p ∈ tbl, ercB p.1 X.K = true ∧ kit1B p.1 c p.2 X.K = true)
    (hz : Zc cls d oe) (hf : ∃ vs, oe.data = .fields vs) : CallR (X.suite a ((a, oe) :: pn)) (.builtin "isinstance") (fun xs H Q => ∃ v, xs = [v, c.v X.K] ∧ rIsE1 X.K a cls d tbl [v, c.v X.K] H Q) := by
  intro pins s σ H xs us Q I r h
  obtain ⟨v, rfl, D, b, v', hm, rfl, rfl, e, q⟩ := h
  cases e
  obtain ⟨h1, h2⟩ := hT _ hm
  exact call_isE (erc_ok h1) hz hf pins s σ H _ us Q I r ⟨_, _, b, rfl, fun u ru => (Cn.is c).eq ru, of_decide_eq_true h2, q⟩
theorem call_isET {a : Addr} {oe : Obj} {cls : Value} {d : Option Addr} {pn : List (Addr × Obj)} {cs : List Cn} {tbl : List (Str × Bool)} (hT : ∀ p ∈ tbl, ercB p.1 X.K = true ∧ kitB p.1 cs p.2 X.K = true)
    (hz : Zc cls d oe) (hf : ∃ vs, oe.data = .fields vs) : CallR (X.suite a ((a, oe) :: pn)) (.builtin "isinstance") (fun xs H Q => ∃ v tp, xs = [v, .ref tp] ∧ H tp = some (.tup (cs.map (Cn.v X.K))) ∧ rIsE1 X.K a cls d tbl [v, .ref tp] H Q) := by
  intro pins s σ H xs us Q I r h
  obtain ⟨v, tp, rfl, hT2, D, b, v', hm, rfl, rfl, e, q⟩ := h
  cases e
  obtain ⟨h1, h2⟩ := hT _ hm
  have C := erc_ok h1
  obtain ⟨u1, u2, rfl, r1, r2⟩ := vals2 r
  cases (show u1 = Value.ref a from r1)
  cases (show u2 = Value.ref tp from r2)
  obtain ⟨hget, _⟩ := I.pin (a, oe) (List.mem_append.mpr (.inl List.mem_cons_self))
  obtain ⟨vs, hv⟩ := hf
  have J : PySem.W.InstAt s.heap a oe (He.ga X.K D) none := by
    obtain ⟨oc, od, oda, osl⟩ := oe
    obtain ⟨h1, h2⟩ := hz
    dsimp only at h1 h2 hv
    subst h1 h2 hv
    exact ⟨hget, rfl, rfl, trivial⟩
  obtain ⟨_, its, rv, o, g1, g2, n, g3⟩ := (show ObjOk X.prog X.w H s.heap tp (.tup _) from I.hok tp _ hT2)
  have e3 : its = cs.map (Cn.val X.K) := by
    have go : ∀ (cs : List Cn) (its : List Value), Vals (cs.map (Cn.v X.K)) its → its = cs.map (Cn.val X.K) := by
      intro cs
      induction cs with
      | nil => intro its r; cases r; rfl
      | cons c cs ih =>
        intro its r
        cases r with
        | cons r1 r2 => rw [ih _ r2, (Cn.is c).eq r1]; rfl
    exact go cs its rv
  subst e3
  obtain ⟨oc, od, dt, sl⟩ := o
  dsimp only at g2 g3
  subst g2 g3
  exact PySem.W.kia_tup (PySem.W.handS_kitx_exc C.hg C.hk C.hs C.hd C.ha C.hn C.ht C.hm) I.kIn J g1 (of_decide_eq_true h2) (fun z => nomatch z) fun tk => ⟨.bl b, H, I.kept (t' := tk) fun _ _ z => z, rfl, q⟩
end
/-- what 'except c as n' and 'except c' wish, told by names; b: is it c -/
def wAsT (K : Frg) (tbl : List (Str × Bool)) (i : Nat) (ts : Addr → Value → Option Addr → TS) (Wout : WX) (D : Ends) : WX := fun cls d σ H =>
  ∃ C b, (C, b) ∈ tbl ∧ cls = .ref (He.ga K C) ∧ (b = true → ∀ a, H a = none → ts a cls d { nx := fun σ' H' => D.nx (σ'.set i none) H', rt := D.rt, bk := fun σ' H' => D.bk (σ'.set i none) H', ct := fun σ' H' => D.ct (σ'.set i none) H' } (σ.set i (some (.ref a))) H) ∧
    (b = false → Wout cls d σ H)
def wOnlyT (K : Frg) (tbl : List (Str × Bool)) (ts : Addr → Value → Option Addr → TS) (Wout : WX) (D : Ends) : WX := fun cls d σ H =>
  ∃ C b, (C, b) ∈ tbl ∧ cls = .ref (He.ga K C) ∧ (b = true → ∀ a, H a = none → ts a cls d D σ H) ∧ (b = false → Wout cls d σ H)
def exB (c D : Str) (b : Bool) (K : Frg) : Bool := decide (PySem.W.exmOne K (.ref (He.ga K D)) (.ref (He.ga K c)) = some b)
section
variable {X : Cx} {x n c : Str} {i : Nat} {body suite : List Stmt} {b₀ : Stmt} {np pos pos' : Pos} {tb : WX → TS} {ts : Addr → Value → Option Addr → TS} {Wout : WX} {tbl : List (Str × Bool)}
/-- the body's reading at a narrower wish -/
def narrow (tb : WX → TS) : WX → TS := fun W D σ H => ∃ W' : WX, (∀ cls d σ H, W' cls d σ H → W cls d σ H) ∧ tb W' D σ H
theorem narrow_ok {Y : Cx} {W : WX} (tk : Takes Y W) (hb : ∀ W, Takes Y W → PSs Y body (tb W)) : PSs Y body (narrow tb W) := by
  refine ⟨fun pins s σ H D I h => ?_⟩
  obtain ⟨W', hw, h⟩ := h
  exact (hb W' (tk.imp hw)).run pins s σ H D I h
theorem ps_try_asT (hT : ∀ p ∈ tbl, exB c p.1 p.2 X.K = true) (hs : X.stack = X.env :: X.outer) (hf : X.env.frame = some X.env.locals) (hN : X.N.Nodup) (hi : X.N[i]? = some n) (hln : X.env.kindOf n = some .local) (hc : Names X x (.ref (He.ga X.K c))) (tk : Takes X Wout)
    (hb : ∀ (W : WX) (pn : List (Addr × Obj)) (xe : Value → Shared → Prop), Takes (X.tr pn xe) W → PassesOwn (model X.prog X.w) X.A X.env xe → PSs (X.tr pn xe) body (tb W))
    (hsu : ∀ (a : Addr) (oe : Obj) (cls : Value) (d : Option Addr) (pn : List (Addr × Obj)), Zc cls d oe → (∃ vs, oe.data = .fields vs) → PSs (X.suite a ((a, oe) :: pn)) (b₀ :: suite) (ts a cls d)) :
    PS X (.Try body [.ExceptHandler (some (.Name x np)) (some n) (b₀ :: suite) pos'] [] [] pos) (fun D σ H => tb (wAsT X.K tbl i ts Wout D) D σ H) := by
  refine ⟨fun pins s σ H D I h => ?_⟩
  refine (ps_try_as (tb := narrow tb) hs hf hN hi hln hc tk (fun W pn xe t p => narrow_ok t fun W' t' => hb W' pn xe t' p) hsu).run pins s σ H D I ⟨_, fun cls d σ H w => ?_, h⟩
  obtain ⟨C, b, hm, rfl, h1, h2⟩ := w
  exact ⟨b, of_decide_eq_true (hT _ hm), h1, h2⟩
theorem ps_try_onlyT (hT : ∀ p ∈ tbl, exB c p.1 p.2 X.K = true) (hs : X.stack = X.env :: X.outer) (hf : X.env.frame = some X.env.locals) (hc : Names X x (.ref (He.ga X.K c))) (tk : Takes X Wout)
    (hb : ∀ (W : WX) (pn : List (Addr × Obj)) (xe : Value → Shared → Prop), Takes (X.tr pn xe) W → PassesOwn (model X.prog X.w) X.A X.env xe → PSs (X.tr pn xe) body (tb W))
    (hsu : ∀ (a : Addr) (oe : Obj) (cls : Value) (d : Option Addr) (pn : List (Addr × Obj)), Zc cls d oe → (∃ vs, oe.data = .fields vs) → PSs (X.suite a ((a, oe) :: pn)) (b₀ :: suite) (ts a cls d)) :
    PS X (.Try body [.ExceptHandler (some (.Name x np)) none (b₀ :: suite) pos'] [] [] pos) (fun D σ H => tb (wOnlyT X.K tbl ts Wout D) D σ H) := by
  refine ⟨fun pins s σ H D I h => ?_⟩
  refine (ps_try_only (tb := narrow tb) hs hf hc tk (fun W pn xe t p => narrow_ok t fun W' t' => hb W' pn xe t' p) hsu).run pins s σ H D I ⟨_, fun cls d σ H w => ?_, h⟩
  obtain ⟨C, b, hm, rfl, h1, h2⟩ := w
  exact ⟨b, of_decide_eq_true (hT _ hm), h1, h2⟩
end
/-! ### d.get(k), d a written table from texts to numbers -/
def tabB (x : Str) (kvs : List (Str × Int)) (K : Frg) : Bool := match K.lookup (He.ga K x) with
  | some ⟨_, _, .dict es _, _⟩ => decide (es.toList.map (fun e => (match e.key with | .str x _ => some x | _ => none, match e.val with | .int i _ => some i | _ => none)) = kvs.map fun q => (some q.1, some q.2))
  | _ => false
def getT (kvs : List (Str × Int)) (z : Str) : V := match kvs.find? (fun q => q.1 == z) with
  | some q => .int q.2
  | none => .non
def tKGet (kvs : List (Str × Int)) (ty : TE) : TE := fun σ H Q => ty σ H fun y H1 => ∃ z, y = .str z ∧ Q (getT kvs z) H1
theorem findBy_tab : ∀ (es : List DictEntry) (kvs : List (Str × Int)) (z : Str), es.map (fun e => (match e.key with | .str x _ => some x | _ => none, match e.val with | .int i _ => some i | _ => none)) = kvs.map (fun q => (some q.1, some q.2)) →
    RelV (getT kvs z) (((es.find? fun e => Value.isStrOf z e.key).map (·.val)).getD .none)
  | [], [], z, _ => rfl
  | [], _ :: _, z, h => by cases h
  | _ :: _, [], z, h => by cases h
  | e :: es, q :: kvs, z, h => by
    rw [List.map_cons, List.map_cons] at h
    injection h with h1 h2
    injection h1 with h3 h4
    obtain ⟨hh, ek, ev⟩ := e
    dsimp only at h3 h4
    cases ek with
    | str x t =>
      cases ev with
      | int i t2 =>
        simp only [Option.some.injEq] at h3 h4
        subst h3 h4
        unfold getT
        rw [List.find?_cons, List.find?_cons]
        have e1 : Value.isStrOf z (Value.str q.1 t) = (q.1 == z) := rfl
        dsimp only
        rw [e1]
        cases q.1 == z with
        | true => exact ⟨_, rfl⟩
        | false => exact findBy_tab es kvs z h2
      | _ => cases h4
    | _ => cases h3
theorem pe_kget {X : Cx} {x : Str} {kvs : List (Str × Int)} {e : Expr} {ty : TE} {np apos cpos : Pos} (hD : ∃ es n, KDict X.K X.w (He.ga X.K x) es n) (hB : tabB x kvs X.K = true) (hm : X.mg x = some (.ref (He.ga X.K x))) (hg : Gl X x)
    (he : PE X e ty) (m : M1 X (.Name x np) "get" apos e cpos) (hdb : (x == ("__debug__" : Str)) = false := by decide) : PE X (.Call (.Attribute (.Name x np) "get" apos) [e] [] cpos) (tKGet kvs ty) := by
  refine ⟨fun pins s σ H Q I h => ?_⟩
  obtain ⟨es, n, D⟩ := hD
  refine wpAny_Call_method m.base m.few m.line PySem.F.plainAttrs_dict PySem.F.slot_dict_get PySem.F.type_dict_get (ld_glob I hg hm ?_ hdb)
  have M := PySem.W.mapOf_K (prog := X.prog) (w := X.w) I.kIn D.at_ D.lit
  refine ⟨M.typeIs, M.noDict, ?_⟩
  rw [m.trees]
  refine Calls.callWith_builtin rfl (Calls.evalArgs_plain (Calls.spliced_cons (thn (he.run pins s σ H _ I h) fun iv s2 ⟨y, H2, I2, ry, z, ey, q2⟩ => Calls.spliced_nil ?_)))
  subst ey
  obtain ⟨t, rfl⟩ := ry
  have M2 := PySem.W.mapOf_K (prog := X.prog) (w := X.w) I2.kIn D.at_ D.lit
  refine call_meetsIn PySem.F.slot_dict_get M2.typeIs PySem.F.entry_dict_get (PySem.F.args_dict_get_2 _ _) (meets_dict_get (strKind X.prog X.w) (He.ga X.K x) (PySem.strKind_is X.prog X.w z t) D.low) ⟨_, M2, ?_⟩
  refine ⟨getT kvs z, H2, I2.tok _, ?_, q2⟩
  unfold tabB at hB
  rw [D.at_] at hB
  have := findBy_tab es.toList kvs z (of_decide_eq_true hB)
  obtain ⟨l⟩ := es
  unfold findBy
  rw [List.find?_toArray]
  exact this
end
section
/-! LoRules2: a tuple times a number, once too; in a tuple of data at any depth; tries told by names. -/
theorem tuple_mul1 (l : Addr) (items : Array Value) (n : Nat) (dd : Option Addr) (sl : Array (Option Value)) (u : Tok) :
    Meets (Builtin.«tuple.__mul__» ⟨[.ref l, .int 1 u], []⟩) (fun _ R s => s.heap.get? l = some { cls := .type "tuple", dict := dd, data := .seq items n, slots := sl } ∧ R (.ok (.ret (Value.ref l))) s) :=
  .of_wp fun prog w A R s h => by
    obtain ⟨hp, g, d, tk, os⟩ := s
    obtain ⟨hl, h⟩ := h
    have f1 := AutoSeq1.idx_int
    wp_walk using wpAny_loadPart' hl
    exact ⟨_, rfl, h⟩
def rRepT1 (K : PySem.W.Frag) : R2 := fun x y H Q => ∃ l k xs, x = .ref l ∧ y = .int k ∧ SqT K H l xs ∧ xs ≠ [] ∧ 1 ≤ k ∧ k ≤ 1000 ∧ xs.length ≤ 1000 ∧ (k = 1 → Q (.ref l) H) ∧ (2 ≤ k → ∀ p, H p = none → Q (.ref p) (upd H p (.tup (List.replicate k.toNat xs).flatten)))
section
variable {X : Cx}
theorem op_repT1 : OpR X (binaryOp .Mult) (rRepT1 X.K) := by
  intro pins s σ H x y v u Q I rx ry h
  obtain ⟨l, k, xs, rfl, rfl, hT, hne, h1, h2, hz, q1, q2⟩ := h
  by_cases hk : k = 1
  · subst hk
    cases rx
    obtain ⟨t, rfl⟩ := ry
    obtain ⟨its, r, ⟨⟨cls, dd, data, sl⟩, ho, hc, n, hd⟩, hs⟩ := I.tuple hT
    simp only at hc hd
    subst hc hd
    exact wpAny_binaryOp_repeat_ref (T := "tuple") (U := "int") (by decide) ⟨_, ho, rfl⟩ (fun s' => typeIs_int s' 1 t) noFill_tuple_mul F.fills_int_mul F.slot_int_rmul repeat_tuple F.slot_int_index.lookup
      (call_meets F.slot_int_rmul (typeIs_int s 1 t) F.entry_int_rmul (F.args_int_rmul_2 _ _) (int_rmul_tuple 1 t l its.toArray n dd sl)
        ⟨ho, rfl, ⟨_, ho, rfl⟩, call_meets F.slot_tuple_mul ⟨_, ho, rfl⟩ F.entry_tuple_mul (F.args_tuple_mul_2 _ _) (tuple_mul1 l its.toArray n dd sl t) ⟨ho, ⟨.ref l, H, I, rfl, q1 rfl⟩⟩⟩)
  · exact op_repT pins s σ H _ _ v u Q I rx ry ⟨l, k, xs, rfl, rfl, hT, hne, by omega, h2, hz, q2 (by omega)⟩
/-! ### x in t, t a tuple of data at any depth -/
def rInTD (K : PySem.W.Frag) (neg : Bool) : R2 := fun x y H Q => ∃ d ds, Dp K H x d ∧ Dp K H y (.tuple ds) ∧ SeqAt.shaped d = true ∧ SeqAt.shaped (.tuple ds) = true ∧ Q (.bl ((ds.any fun z => PyData.eqv z d) != neg)) H
theorem op_inTD (hu : X.A.units + 65 < cLine) : OpR X (compareOp .In) (rInTD X.K false) := by
  intro pins s σ H x y v u Q I rx ry h
  obtain ⟨d, ds, hd, he, sd, se, q⟩ := h
  obtain ⟨as, r1⟩ := Dp.reads I d x v hd rx
  obtain ⟨bs, r2⟩ := Dp.reads I (.tuple ds) y u he ry
  exact SeqAt.in_tuple_reads r2 r1 (SeqAt.canLay_of_shaped se) (SeqAt.canLay_of_shaped sd) (room_in_shaped sd hu) (fin_bl I q (by simp))
theorem op_notInTD (hu : X.A.units + 65 < cLine) : OpR X (compareOp .NotIn) (rInTD X.K true) := by
  intro pins s σ H x y v u Q I rx ry h
  obtain ⟨d, ds, hd, he, sd, se, q⟩ := h
  obtain ⟨as, r1⟩ := Dp.reads I d x v hd rx
  obtain ⟨bs, r2⟩ := Dp.reads I (.tuple ds) y u he ry
  exact SeqAt.notIn_tuple_reads r2 r1 (SeqAt.canLay_of_shaped se) (SeqAt.canLay_of_shaped sd) (room_in_shaped sd hu) (fin_bl I q (by simp))
end
/-- sorted(d), all keys numbers -/
def rSortedDI : List V → Hp → VK → Prop := fun xs H Q => ∃ (a : Addr) (kvs : List (Key × V)) (ks : List Int), xs = [.ref a] ∧ Rd H a (.dK kvs) ∧ kvs.map (·.1) = ks.map Sum.inl ∧ ks.length < 64 ∧
    ∀ (ys : List Int) (p : Addr), ys.Perm ks → ys.Pairwise (· ≤ ·) → H p = none → Q (.ref p) (upd H p (.lst (ys.map V.int)))
/-! ### tries -/
def W0 : WX := fun _ _ _ _ => False
theorem takes_W0 {X : Cx} : Takes X W0 := takes_none5
def tTryAs (K : PySem.W.Frag) (tbl : List (Str × Bool)) (i : Nat) (tb : WX → TS) (ts : Addr → Value → Option Addr → TS) (Wout : WX) : TS := fun D σ H => tb (wAsT K tbl i ts Wout D) D σ H
def tTryOnly (K : PySem.W.Frag) (tbl : List (Str × Bool)) (tb : WX → TS) (ts : Addr → Value → Option Addr → TS) (Wout : WX) : TS := fun D σ H => tb (wOnlyT K tbl ts Wout D) D σ H
def tIsE1 (K : PySem.W.Frag) (a : Addr) (cls : Value) (d : Option Addr) (tbl : List (Str × Bool)) (c : Cn) : List V → Hp → VK → Prop := fun xs H Q => ∃ v, xs = [v, c.v K] ∧ rIsE1 K a cls d tbl [v, c.v K] H Q
def tIsET (K : PySem.W.Frag) (a : Addr) (cls : Value) (d : Option Addr) (tbl : List (Str × Bool)) (cs : List Cn) : List V → Hp → VK → Prop := fun xs H Q => ∃ v tp, xs = [v, .ref tp] ∧ H tp = some (.tup (cs.map (Cn.v K))) ∧ rIsE1 K a cls d tbl [v, .ref tp] H Q

section
variable {K : PySem.W.Frag} {σ : L2.St} {H : Hp} {Q : VK} {D : Ends} {te ta tv : TE} {tr : TA} {v x y : V} {a : Addr} {W : WX} {C : Addr} {f : Str} {dx : Addr} {fs : List (Str × V)} {sp : Sp}
theorem w_fldC {R : V → Prop} (h : H a = some (.ins C dx fs)) (hl : fs.lookup f = some v) (z : R v) : ∃ a' dx fs v, V.ref a = .ref a' ∧ H a' = some (.ins C dx fs) ∧ fs.lookup f = some v ∧ R v := ⟨a, dx, fs, v, rfl, h, hl, z⟩
theorem w_fld (z : te σ H fun x H1 => ∃ a dx fs v, x = .ref a ∧ H1 a = some (.ins C dx fs) ∧ fs.lookup f = some v ∧ Q v H1) : tFldC C f te σ H Q := z
theorem w_sfld (z : tv σ H fun y H1 => ta σ H1 fun x H2 => ∃ a dx fs, x = .ref a ∧ H2 a = some (.ins C dx fs) ∧ fs.length < 1000 ∧ D.nx σ (upd H2 a (.ins C dx (putF f y fs)))) : sFldC C f ta tv D σ H := z
theorem w_meth {m : Str} {E : XK} (z : ta σ H fun x H1 => ∃ a dx fs, x = .ref a ∧ H1 a = some (.ins C dx fs) ∧ fs.lookup m = none ∧ tr σ H1 fun vs H2 => sp (x :: vs) H2 Q E) : tMeth C m sp [] E ta tr σ H Q := by
  unfold tMeth
  simp only [List.append_nil]
  exact z
theorem w_methS {m : Str} (z : ta σ H fun x H1 => ∃ a dx fs, x = .ref a ∧ H1 a = some (.ins C dx fs) ∧ fs.lookup m = none ∧ tr σ H1 fun vs H2 => sp (x :: vs) H2 Q (WE W σ)) : tMethS C m sp W ta tr σ H Q := z
theorem w_callS (z : tr σ H fun vs H1 => sp vs H1 Q (WE W σ)) : tCallS sp (WE W) tr σ H Q := z
theorem w_make {E : XK} (z : tr σ H fun vs H1 => ∀ x dx, H1 x = none → H1 dx = none → dx ≠ x → sp (.ref x :: vs) (upd (upd H1 dx (.own x)) x (.ins C dx [])) (fun v H2 => v = .non ∧ Q (.ref x) H2) E) : tMake C sp [] E tr σ H Q := by
  unfold tMake
  simp only [List.append_nil]
  exact z
theorem w_makeS (z : tr σ H fun vs H1 => ∀ x dx, H1 x = none → H1 dx = none → dx ≠ x → sp (.ref x :: vs) (upd (upd H1 dx (.own x)) x (.ins C dx [])) (fun v H2 => v = .non ∧ Q (.ref x) H2) (WE W σ)) : tMakeS C sp W tr σ H Q := z
theorem w_raise (z : W (.ref C) none σ H) : tRaise C W D σ H := z
theorem w_tryAs {tbl : List (Str × Bool)} {i : Nat} {tb : WX → TS} {ts : Addr → Value → Option Addr → TS} (z : tb (wAsT K tbl i ts W D) D σ H) : tTryAs K tbl i tb ts W D σ H := z
theorem w_tryOnly {tbl : List (Str × Bool)} {tb : WX → TS} {ts : Addr → Value → Option Addr → TS} (z : tb (wOnlyT K tbl ts W D) D σ H) : tTryOnly K tbl tb ts W D σ H := z
end
end
section
/-! LoTok: s.replace('..', '..') in a def with a parameter (a token is out). -/
theorem FunD.okT {P : Program} {w : World} {K : PySem.W.Frag} {mg : Str → Option Value} {base : Heap} {x qual : Str} {params : Arguments} {body : List Stmt} {scope : Scope} {dvs : List V} {kws : List (Str × V)} {f : Addr} {fd : FuncData} {CX : CXT} {N ps : List Str} {k : Nat} {sp : Sp}
    (F : FunD K x qual params body scope dvs kws f fd) (S : FnScope N ps scope) (hnc : ∀ y ∈ scope.names, y.2 ≠ .cell) (hps : 1 ≤ ps.length) (len : ∀ vs H Q E, sp vs H Q E → vs.length = ps.length)
    (hbody : ∀ (cdv : Value) (A : Around) (outer : List Env) (s : Shared) (H : Hp) (vs : List V) (Q : VK) (E : XK), Room k (A.deeper (envOfC qual scope s.heap.objs.size f cdv)) → sp vs H Q E →
      ∃ t, PSsT (cxOf CX P w K mg base N qual scope f cdv A outer s H E) body t ∧ t { nx := fun _ H' => Q .non H', rt := Q } (L2.start N vs) H) : FnOk P w K mg base CX (k + 1) f fd ps sp := by
  obtain ⟨oc, od, dV, kV, doc, pm, an, cdv, ct, osl, rfl, lk, hcd, _, _⟩ := F.ex
  exact fn_ofT lk hcd S hnc hps len fun A outer s H vs Q E hr hsp => hbody cdv A outer s H vs Q E hr hsp
section
variable {X : Cx} {CX : CXT} {k : Nat} {f : Addr} {fd : FuncData} {ps : List Str} {sp : Sp} {E : XK} {x : Str} {p pos apos : Pos} {e o : Expr} {es : List Expr} {te ta : TE} {t : TA}
theorem psst_one {st : Stmt} {u : TS} (h : PST X st u) : PSsT X [st] u := by
  intro pins s σ H D h0 I hw
  refine wpAny_execs_cons (thn (h pins s σ H D h0 I hw) fun f s1 q => ?_)
  cases f with
  | next => exact let ⟨σ', H', I', q⟩ := q; wpAny_execs_nil ⟨σ', H', I', q⟩
  | ret v => exact q
  | brk => exact q
  | cont => exact q
theorem pst_ret (he : PET X e te) : PST X (.Return (some e) pos) (tRet te) := by
  intro pins s σ H D h0 I h
  exact wpAny_Return_some (thn (he pins s σ H _ h0 I h) fun v s1 ⟨x, H1, I1, r1, q1⟩ => ⟨x, σ, H1, I1, r1, q1⟩)
theorem pet_call (F : FnOk X.prog X.w X.K X.mg X.base CX k f fd ps sp) (hr : Room k X.A) (hg : Gl X x) (hm : X.mg x = some (.ref f)) (hk : PySem.W.keepIn X.K (.ref f) = true) (hb : Binds X.K fd ps []) (hx : Passes CX X E)
    (ha : PAT X (e :: es) t) (hdb : (x == ("__debug__" : Str)) = false := by decide) (he : starEach (e :: es) X.env = (false, eval e X.env) :: starEach es X.env := by rfl) (hpl : (backTo pos (starEach es X.env)).any (·.1) = false := by rfl) :
    PET X (.Call (.Name x p) (e :: es) [] pos) (tCall sp [] E t) := by
  intro pins s σ H Q h0 I h
  refine wpAny_Call_Name_kw (ld_glob I hg hm ?_ hdb)
  refine PySem.W.callWith_K (h₀ := X.base) I.ok.mod.kin hk (thn (ha pos pins s σ H _ h0 I h) fun us s1 ⟨vs, H1, I1, r, q⟩ => ⟨I1.kIn, ?_⟩) he hpl
  exact run_fn F hr hb .nil hx I1 r q
/-- s.replace(y, z) -/
def tRepl (y z : Str) (to : TE) : TE := fun σ H Q => to σ H fun x H1 => ∃ a, x = .str a ∧ a.length + (a.length + 1) * z.length ≤ 16777216 ∧ Q (.str (Txt.replace a y z)) H1
theorem pet_repl {y z : Str} {to : TE} {j0 j1 : Nat} {c0 c1 : Pos} (ho : PE X o to) (hyz : (y == z) = false := by decide)
    (hst : starEach [.Constant (.str y) j0 c0, .Constant (.str z) j1 c1] X.env = [(false, eval (.Constant (.str y) j0 c0) X.env), (false, eval (.Constant (.str z) j1 c1) X.env)] := by rfl)
    (hbase : attributeBase o "replace" X.env (eval o X.env) = eval o X.env := by rfl) (hline : (apos.endLine == pos.line) = true := by rfl) :
    PET X (.Call (.Attribute o "replace" apos) [.Constant (.str y) j0 c0, .Constant (.str z) j1 c1] [] pos) (tRepl y z to) := by
  intro pins s σ H Q h0 I h
  refine PySem.Call_method2 hbase hst hline (wpAny_mono (PySem.wpAny_toks (ho.run pins s σ H _ I h)) (fun v s1 q => ?_) fun _ _ z => z.2)
  obtain ⟨hk, x', H1, I1, r1, a, rfl, hb, q⟩ := q
  obtain ⟨tx, rfl⟩ := r1
  have h1 : 1 ≤ s1.toks := Nat.le_trans h0 hk
  refine ⟨"str", _, F.plainAttrs_str, F.slot_str_replace, F.type_str_replace, typeIs_str _ _ _, (fun _ e => nomatch e), Calls.callWith_builtin rfl (Calls.evalArgs_plain (Calls.spliced_cons ?_))⟩
  refine Calls.Constant_str (Calls.spliced_cons (Calls.Constant_str (Calls.spliced_nil ?_)))
  exact PySem.SC.replace (show s1.toks ≠ 0 by omega) (show s1.toks + 1 ≠ 0 by omega) (show s1.toks ≠ s1.toks + 1 by omega) hyz hb fun t' k => ⟨.str (Txt.replace a y z), H1, I1.tok k, ⟨t', rfl⟩, q⟩
end
end
section
/-! LoData: values as data, what stays when the heap grows, plain tests of data. -/
/-- all that is tracked stays -/
def Ext (H H' : Hp) : Prop := ∀ b o, H b = some o → H' b = some o
theorem Ext.refl (H : Hp) : Ext H H := fun _ _ h => h
theorem Ext.trans {H H1 H2 : Hp} (x : Ext H H1) (y : Ext H1 H2) : Ext H H2 := fun b o h => y b o (x b o h)
theorem Ext.new {H H' : Hp} {p : Addr} {o : HO} (x : Ext H H') (hp : H' p = none) : Ext H (L2.upd H' p o) := fun b u h => by
  rw [upd_ne (ne_of_none (x b u h) hp)]
  exact x b u h
theorem Ext.new1 {H : Hp} {p : Addr} {o : HO} (hp : H p = none) : Ext H (L2.upd H p o) := (Ext.refl H).new hp
theorem Rd.ext {H H' : Hp} {a : Addr} {o : HO} (h : Rd H a o) (e : Ext H H') : Rd H' a o := by
  rcases h with h | ⟨u, h⟩
  · exact .inl (e _ _ h)
  · exact .inr ⟨u, e _ _ h⟩
theorem SqL.ext {K : PySem.W.Frag} {H H' : Hp} {a : Addr} {xs : List V} (h : SqL K H a xs) (e : Ext H H') : SqL K H' a xs := by
  rcases h with h | h
  · exact .inl (LO.Rd.ext h e)
  · exact .inr h
theorem SqT.ext {K : PySem.W.Frag} {H H' : Hp} {a : Addr} {xs : List V} (h : SqT K H a xs) (e : Ext H H') : SqT K H' a xs := by
  rcases h with h | h
  · exact .inl (LO.Rd.ext h e)
  · exact .inr h
mutual
theorem Dp.ext {K : PySem.W.Frag} {H H' : Hp} (e : Ext H H') : ∀ (d : PyData) (v : V), Dp K H v d → Dp K H' v d
  | .none, _, h => by cases h; exact .non
  | .bool b, _, h => by cases h; exact .bl b
  | .int i, _, h => by cases h; exact .int i
  | .str x, _, h => by cases h; exact .str x
  | .list ds, _, h => by cases h with | lst q r => exact .lst (LO.SqL.ext q e) (DpAll.ext e ds _ r)
  | .tuple ds, _, h => by cases h with | tup q r => exact .tup (LO.SqT.ext q e) (DpAll.ext e ds _ r)
  | .dict _, _, h => by cases h
theorem DpAll.ext {K : PySem.W.Frag} {H H' : Hp} (e : Ext H H') : ∀ (ds : List PyData) (vs : List V), DpAll K H vs ds → DpAll K H' vs ds
  | [], _, h => by cases h; exact .nil
  | d :: ds, _, h => by cases h with | cons q r => exact .cons (Dp.ext e d _ q) (DpAll.ext e ds _ r)
end
theorem Dp.up {K : PySem.W.Frag} {H H' : Hp} {v : V} {d : PyData} (h : Dp K H v d) (e : Ext H H') : Dp K H' v d := LO.Dp.ext e d v h
theorem DpAll.up {K : PySem.W.Frag} {H H' : Hp} {vs : List V} {ds : List PyData} (h : DpAll K H vs ds) (e : Ext H H') : DpAll K H' vs ds := LO.DpAll.ext e ds vs h
theorem DpAll.len {K : PySem.W.Frag} {H : Hp} : ∀ {vs : List V} {ds : List PyData}, DpAll K H vs ds → vs.length = ds.length
  | [], [], _ => rfl
  | _ :: _, _ :: _, .cons _ r => congrArg Nat.succ (LO.DpAll.len r)
theorem DpAll.at {K : PySem.W.Frag} {H : Hp} : ∀ {vs : List V} {ds : List PyData}, DpAll K H vs ds → ∀ {i : Nat} {v : V}, vs[i]? = some v → ∃ d, ds[i]? = some d ∧ Dp K H v d
  | _, _, .cons q r, 0, v, h => ⟨_, rfl, by
    have e := Option.some.inj h
    rw [← e]
    exact q⟩
  | _, _, .cons q r, i + 1, v, h => LO.DpAll.at r (i := i) h
  | [], [], .nil, i, v, h => by simp at h
theorem DpAll.of_at {K : PySem.W.Frag} {H : Hp} : ∀ {vs : List V} {ds : List PyData}, vs.length = ds.length → (∀ (i : Nat) (v : V) (d : PyData), vs[i]? = some v → ds[i]? = some d → Dp K H v d) → DpAll K H vs ds
  | [], [], _, _ => .nil
  | v :: vs, d :: ds, h, f => .cons (f 0 v d rfl rfl) (LO.DpAll.of_at (Nat.succ.inj h) fun i v d h1 h2 => f (i + 1) v d h1 h2)
/-! ### the type of a value -/
def tyD : PyData → String
  | .none => "NoneType"
  | .bool _ => "bool"
  | .int _ => "int"
  | .str _ => "str"
  | .list _ => "list"
  | .tuple _ => "tuple"
  | .dict _ => "dict"
/-- isinstance -/
def dIs (T : String) (d : PyData) : Bool := tyD d == T || (tyD d == "bool" && T == "int")
theorem tyX_of {K : PySem.W.Frag} {H : Hp} {v : V} {d : PyData} (h : Dp K H v d) : TyX K H v (.type (tyD d)) := by
  cases h with
  | non => exact .base .non
  | bl b => exact .base (.bl b)
  | int i => exact .base (.int i)
  | str x => exact .base (.str x)
  | lst q r =>
    rcases q with (q | ⟨o, q⟩) | ⟨o, its, n, h1, h2, _⟩
    · exact .base (.lst q)
    · exact .base (.frz q)
    · exact .kList h1 h2
  | tup q r =>
    rcases q with (q | ⟨o, q⟩) | ⟨o, its, n, h1, h2, _⟩
    · exact .base (.tup q)
    · exact .fTuple q
    · exact .kTuple h1 h2
theorem kit_d {K : PySem.W.Frag} (d : PyData) (T : String) (hT : T = "str" ∨ T = "int" ∨ T = "bool" ∨ T = "tuple" ∨ T = "list") (hd : tyD d ≠ "dict") : PySem.W.kitOne K (.type (tyD d)) (.type T) = some (dIs T d) := by
  refine kit_ty ?_
  have k : ∀ t ∈ (["NoneType", "bool", "int", "str", "list", "tuple"] : List String), ∀ T ∈ (["str", "int", "bool", "tuple", "list"] : List String), L2.kitB t T = some (t == T || (t == "bool" && T == "int")) := by decide +kernel
  refine k (tyD d) ?_ T ?_
  · cases d <;> first | (simp [tyD]; done) | exact absurd rfl hd
  · rcases hT with rfl | rfl | rfl | rfl | rfl <;> simp
theorem p_isi {K : PySem.W.Frag} {H : Hp} {Q : VK} {v : V} {d : PyData} {T : String} {b : Bool} (h : Dp K H v d) (hT : T = "str" ∨ T = "int" ∨ T = "bool" ∨ T = "tuple" ∨ T = "list") (e : dIs T d = b) (z : Q (.bl b) H) : rIsi K [v, .ty T] H Q := by
  subst e
  exact ⟨v, .ty T, _, _, _, rfl, .ty T, tyX_of h, kit_d d T hT (by cases h <;> simp [tyD]), z⟩
/-! ### small enough -/
mutual
def fine : PyData → Bool
  | .str s => decide (s.length ≤ 100000) && PyData.strOk s
  | .list xs => decide (xs.length ≤ 100000) && fineAll xs
  | .tuple xs => decide (xs.length ≤ 100000) && fineAll xs
  | .dict _ => false
  | _ => true
def fineAll : List PyData → Bool
  | [] => true
  | x :: xs => fine x && fineAll xs
end
structure Fine (d : PyData) : Prop where
  ok : fine d = true
  dp : d.depth ≤ 32
theorem fineAll_mem : ∀ {xs : List PyData}, fineAll xs = true → ∀ x ∈ xs, fine x = true
  | y :: ys, h, x, hx => by
    have h2 : (fine y && fineAll ys) = true := h
    obtain ⟨h3, h4⟩ := Bool.and_eq_true_iff.mp h2
    rcases List.mem_cons.mp hx with e | hx
    · rw [e]; exact h3
    · exact fineAll_mem h4 x hx
theorem depth_mem : ∀ {xs : List PyData} {x : PyData}, x ∈ xs → x.depth ≤ PyData.depthAll xs
  | y :: ys, x, hx => by
    unfold PyData.depthAll
    rcases List.mem_cons.mp hx with e | hx
    · rw [e]; exact Nat.le_max_left _ _
    · exact Nat.le_trans (depth_mem hx) (Nat.le_max_right _ _)
theorem Fine.tupLen {xs : List PyData} (h : Fine (.tuple xs)) : xs.length ≤ 100000 := by
  have h2 : (decide (xs.length ≤ 100000) && fineAll xs) = true := h.ok
  exact of_decide_eq_true (Bool.and_eq_true_iff.mp h2).1
theorem Fine.mem {xs : List PyData} {x : PyData} (h : Fine (.tuple xs)) (hx : x ∈ xs) : Fine x := by
  have h2 : (decide (xs.length ≤ 100000) && fineAll xs) = true := h.ok
  refine ⟨fineAll_mem (Bool.and_eq_true_iff.mp h2).2 x hx, ?_⟩
  have h3 : PyData.depthAll xs + 1 ≤ 32 := h.dp
  have := depth_mem hx
  omega
theorem Fine.at {xs : List PyData} {x : PyData} {i : Nat} (h : Fine (.tuple xs)) (hx : xs[i]? = some x) : Fine x := h.mem (List.mem_of_getElem? hx)
theorem Fine.strLen {s : Str} (h : Fine (.str s)) : s.length ≤ 100000 := by
  have h2 : (decide (s.length ≤ 100000) && PyData.strOk s) = true := h.ok
  exact of_decide_eq_true (Bool.and_eq_true_iff.mp h2).1
mutual
theorem fine_canLay : ∀ d : PyData, fine d = true → d.canLay0 = true
  | .none, _ => rfl
  | .bool _, _ => rfl
  | .int _, _ => rfl
  | .str s, h => (Bool.and_eq_true_iff.mp (show (decide (s.length ≤ 100000) && PyData.strOk s) = true from h)).2
  | .list xs, h => fineAll_canLay xs (Bool.and_eq_true_iff.mp (show (decide (xs.length ≤ 100000) && fineAll xs) = true from h)).2
  | .tuple xs, h => fineAll_canLay xs (Bool.and_eq_true_iff.mp (show (decide (xs.length ≤ 100000) && fineAll xs) = true from h)).2
  | .dict _, h => by cases h
theorem fineAll_canLay : ∀ xs : List PyData, fineAll xs = true → PyData.canLayAll0 xs = true
  | [], _ => rfl
  | x :: xs, h => by
    obtain ⟨h1, h2⟩ := Bool.and_eq_true_iff.mp (show (fine x && fineAll xs) = true from h)
    exact Bool.and_eq_true_iff.mpr ⟨fine_canLay x h1, fineAll_canLay xs h2⟩
end
theorem Fine.shaped {d : PyData} (h : Fine d) : SeqAt.shaped d = true := Bool.and_eq_true_iff.mpr ⟨fine_canLay d h.ok, decide_eq_true (Nat.le_trans h.dp (by decide))⟩
theorem Fine.refl {d : PyData} (h : Fine d) : PyData.eqv d d = true := SeqAt.eqv_refl d (fine_canLay d h.ok)
theorem Fine.int (i : Int) : Fine (.int i) := ⟨rfl, Nat.zero_le _⟩
theorem Fine.none : Fine .none := ⟨rfl, Nat.zero_le _⟩
theorem Fine.bool (b : Bool) : Fine (.bool b) := ⟨rfl, Nat.zero_le _⟩
theorem Fine.str {s : Str} (h : s.length ≤ 100000) (h2 : PyData.strOk s = true) : Fine (.str s) := ⟨Bool.and_eq_true_iff.mpr ⟨decide_eq_true h, h2⟩, Nat.zero_le _⟩
/-- data of at most that depth -/
structure FineN (n : Nat) (d : PyData) : Prop where
  ok : fine d = true
  dp : d.depth ≤ n
theorem FineN.fine {n : Nat} {d : PyData} (h : FineN n d) (hn : n ≤ 32 := by decide) : Fine d := ⟨h.ok, Nat.le_trans h.dp hn⟩
theorem FineN.int {n : Nat} (i : Int) : FineN n (.int i) := ⟨rfl, Nat.zero_le _⟩
theorem FineN.non {n : Nat} : FineN n .none := ⟨rfl, Nat.zero_le _⟩
theorem FineN.bool {n : Nat} (b : Bool) : FineN n (.bool b) := ⟨rfl, Nat.zero_le _⟩
theorem FineN.str {n : Nat} {s : Str} (h : s.length ≤ 100000) (h2 : PyData.strOk s = true) : FineN n (.str s) := ⟨Bool.and_eq_true_iff.mpr ⟨decide_eq_true h, h2⟩, Nat.zero_le _⟩
theorem fineAll_of : ∀ {xs : List PyData}, (∀ x ∈ xs, fine x = true) → fineAll xs = true
  | [], _ => rfl
  | y :: ys, h => Bool.and_eq_true_iff.mpr ⟨h y (List.mem_cons_self ..), fineAll_of fun x hx => h x (List.mem_cons_of_mem _ hx)⟩
theorem depthAll_of : ∀ {xs : List PyData} {n : Nat}, (∀ x ∈ xs, x.depth ≤ n) → PyData.depthAll xs ≤ n
  | [], _, _ => Nat.zero_le _
  | y :: ys, n, h => by
    unfold PyData.depthAll
    exact Nat.max_le.mpr ⟨h y (List.mem_cons_self ..), depthAll_of fun x hx => h x (List.mem_cons_of_mem _ hx)⟩
theorem FineN.tup {n : Nat} {xs : List PyData} (hl : xs.length ≤ 100000) (h : ∀ x ∈ xs, FineN n x) : FineN (n + 1) (.tuple xs) :=
  ⟨Bool.and_eq_true_iff.mpr ⟨decide_eq_true hl, fineAll_of fun x hx => (h x hx).ok⟩, Nat.succ_le_succ (depthAll_of fun x hx => (h x hx).dp)⟩
theorem FineN.up {n m : Nat} {d : PyData} (h : FineN n d) (hn : n ≤ m) : FineN m d := ⟨h.ok, Nat.le_trans h.dp hn⟩
/-! ### plain tests -/
def smallC (c : Nat) : Bool := decide (97 ≤ c ∧ c ≤ 122)
def wordC (c : Nat) : Bool := smallC c || decide (48 ≤ c ∧ c ≤ 57)
def nameL (l : List Nat) : Bool := decide (1 ≤ l.length ∧ l.length ≤ 12) && (l.all wordC && smallC (l.getD 0 0))
def isNameD : PyData → Bool
  | .str z => nameL z.cps.toList
  | _ => false
def numI (i : Int) : Bool := decide (1 ≤ i ∧ i ≤ 10 ^ 18)
def isNumD : PyData → Bool
  | .int i => numI i
  | _ => false
def plainL (l : List Nat) : Bool := l.all fun c => decide (32 ≤ c ∧ c ≤ 126)
def isTextD : PyData → Bool
  | .str z => decide (1 ≤ z.length ∧ z.length ≤ 400) && plainL (Txt.replace z "\n" "").cps.toList
  | _ => false
def isTitleD : PyData → Bool
  | .str z => decide (z.length ≤ 60) && plainL z.cps.toList
  | _ => false
def isRefD : PyData → Bool
  | .tuple [a, b] => isNameD a && isNumD b
  | _ => false
def isRoomD : PyData → Bool
  | .tuple [a, b] => isNameD a && isNameD b
  | _ => false
def ltD : PyData → PyData → Bool
  | .str a, .str b => decide (a.cps.toList < b.cps.toList)
  | _, _ => false
def fstD : PyData → PyData
  | .tuple (a :: _) => a
  | _ => .none
def memAt (xs : List PyData) (i : Nat) : Bool := isNameD (xs.getD i .none) && (decide (i = 0) || ltD (xs.getD (i - 1) .none) (xs.getD i .none))
def refAt (xs : List PyData) (i : Nat) : Bool := isRefD (xs.getD i .none) && (decide (i = 0) || ltD (fstD (xs.getD (i - 1) .none)) (fstD (xs.getD i .none)))
def isMembersD : PyData → Bool
  | .tuple xs => decide (xs.length ≤ 15) && (List.range xs.length).all (memAt xs)
  | _ => false
def isSeenD : PyData → Bool
  | .tuple xs => (List.range xs.length).all (refAt xs)
  | _ => false
def partsL : List (Str × Int) := [("found", 2), ("say", 1), ("reply", 2), ("edit", 2), ("recall", 1), ("mark", 2), ("title", 1), ("add", 1), ("cut", 1), ("hand", 1), ("seen", 0)]
def bodyK (k : Str) (rest : List PyData) : Bool :=
  if k = "found" then isTitleD (rest.getD 0 .none) && isMembersD (rest.getD 1 .none)
  else if (k = "reply" ∨ k = "edit" ∨ k = "recall" ∨ k = "mark") ∧ isRefD (rest.getD 0 .none) = false then false
  else if k = "say" ∨ k = "reply" ∨ k = "edit" then isTextD (rest.getLastD .none)
  else if k = "title" then isTitleD (rest.getD 0 .none)
  else if k = "mark" ∨ k = "add" ∨ k = "cut" ∨ k = "hand" then isNameD (rest.getLastD .none)
  else true
def isBodyD : PyData → Bool
  | .tuple (.str k :: rest) => decide (getT partsL k = .int rest.length) && bodyK k rest
  | _ => false
def kindD : PyData → PyData := fstD
def memTD (x : PyData) : PyData → Bool
  | .tuple xs => xs.any fun z => PyData.eqv z x
  | _ => false
def sndD : PyData → PyData
  | .tuple (_ :: _ :: c :: _) => c
  | _ => .none
def isLetterD : PyData → Bool
  | .tuple [.str a, .int n, .int st, seen, body] => nameL a.cps.toList && (numI n && (numI st && (isSeenD seen && (isBodyD body && (memTD (.tuple [.str a, .int n]) seen && (!decide (st < n) &&
    (if PyData.eqv (fstD body) (.str "found") then decide (st = 1) && (PyData.eqv seen (.tuple [.tuple [.str a, .int 1]]) && !memTD (.str a) (sndD body)) else decide (1 < st))))))))
  | _ => false
def isValuesD : PyData → Bool
  | .tuple xs => decide (0 < xs.length) && xs.all isLetterD
  | _ => false
def isParcelD : PyData → Bool
  | .tuple [.str k, room, rows] => isRoomD room && (if k = "have" then isSeenD rows else decide (k = "letters") && isValuesD rows)
  | _ => false
end
section
/-! LoValS: promises of the tests. -/
/-- a test of data -/
def spD (f : PyData → Bool) (G : Gv) : Sp := fun vs H Q _ => ∃ v d, vs = [v] ∧ Dp G.K H v d ∧ Fine d ∧ ∀ H', Ext H H' → Q (.bl (f d)) H'
def sp_is_name (G : Gv) : Sp := spD isNameD G
def sp_is_number (G : Gv) : Sp := spD isNumD G
def sp_is_text (G : Gv) : Sp := spD isTextD G
def sp_is_title (G : Gv) : Sp := spD isTitleD G
def sp_is_ref (G : Gv) : Sp := spD isRefD G
def sp_is_room (G : Gv) : Sp := spD isRoomD G
def sp_is_pair (G : Gv) : Sp := spD isRefD G
def sp_is_members (G : Gv) : Sp := spD isMembersD G
def sp_is_body (G : Gv) : Sp := spD isBodyD G
def sp_is_seen (G : Gv) : Sp := spD isSeenD G
def sp_are_counts (G : Gv) : Sp := spD isSeenD G
def sp_is_letter (G : Gv) : Sp := spD isLetterD G
def sp_are_values (G : Gv) : Sp := spD isValuesD G
def sp_is_parcel (G : Gv) : Sp := spD isParcelD G
def sp_is_plain (G : Gv) : Sp := fun vs H Q _ => ∃ z, vs = [V.str z] ∧ Q (.bl (plainL z.cps.toList)) H
end
section
/-! LoWp: more step rules, helpers on texts and places. -/
section
variable {K : PySem.W.Frag} {σ : L2.St} {H : Hp} {Q : VK} {D : Ends} {te ta tb tc : TE} {tr : TA} {v x y : V} {p : Addr} {xs : List V}
theorem w_chain {r r' : R2} (z : ta σ H fun x H1 => tb σ H1 fun y H2 => r x y H2 fun z H3 => ∃ k, z = V.bl k ∧ (if k = true then tc σ H3 fun w' H4 => r' y w' H4 Q else Q (.bl false) H3)) : tChain r r' ta tb tc σ H Q := z
theorem w_gtup {n : Nat} {t : TGs} {R : L2.St → Hp → Prop} (h : SqT K H p xs) (hl : xs.length = n) (z : t xs σ H R) : gTup K n t (V.ref p) σ H R := ⟨p, xs, rfl, h, hl, z⟩
theorem w_gcons {t : TG} {u : TGs} {vs : List V} {R : L2.St → Hp → Prop} (z : t v σ H fun σ' H' => u vs σ' H' R) : gCons t u (v :: vs) σ H R := ⟨v, vs, rfl, z⟩
theorem w_gnil {R : L2.St → Hp → Prop} (z : R σ H) : gNil [] σ H R := ⟨rfl, z⟩
theorem w_enumT {R : It → Hp → Prop} (z : tr σ H fun vs H1 => ∃ a xs, vs = [.ref a] ∧ SqT K H1 a xs ∧ R (Itet K xs.length a) H1) : iEnumT K tr σ H R := z
theorem w_kget {kvs : List (Str × Int)} (z : te σ H fun y H1 => ∃ z, y = V.str z ∧ Q (getT kvs z) H1) : tKGet kvs te σ H Q := z
theorem w_repl {y z : Str} (w : te σ H fun x H1 => ∃ a, x = V.str a ∧ a.length + (a.length + 1) * z.length ≤ 16777216 ∧ Q (.str (Txt.replace a y z)) H1) : tRepl y z te σ H Q := w
theorem p_ordS {c : Nat} (z : Q (.int (c : Nat)) H) : rOrd [V.str ⟨#[c]⟩] H Q := ⟨_, rfl, rfl, z⟩
theorem w_blE {k k' : Bool} {R : Bool → Prop} (e : k = k') (z : R k') : ∃ q, V.bl k = V.bl q ∧ R q := ⟨k', by rw [e], z⟩
theorem w_din {ty td : TE} (z : ty σ H fun y H1 => td σ H1 fun x H2 => ∃ a o, x = V.ref a ∧ DGet H2 a y o ∧ Q (.bl o.isSome) H2) : tDIn ty td σ H Q := z
theorem w_dnotin {ty td : TE} (z : ty σ H fun y H1 => td σ H1 fun x H2 => ∃ a o, x = V.ref a ∧ DGet H2 a y o ∧ Q (.bl (!o.isSome)) H2) : tDNotIn ty td σ H Q := z
theorem w_dget {ty td : TE} (z : td σ H fun x H1 => ty σ H1 fun y H2 => ∃ a v, x = V.ref a ∧ DGet H2 a y (some v) ∧ Q v H2) : tDGet td ty σ H Q := z
theorem w_dget1 {ty td : TE} (z : td σ H fun x H1 => ∃ a, x = V.ref a ∧ IsD H1 a ∧ ty σ H1 fun y H2 => ∃ o, DGet H2 a y o ∧ Q (o.getD .non) H2) : tDGet1 td ty σ H Q := z
theorem w_dget2 {ty td tx : TE} (z : td σ H fun x H1 => ∃ a, x = V.ref a ∧ IsD H1 a ∧ ty σ H1 fun y H2 => tx σ H2 fun z H3 => ∃ o, DGet H3 a y o ∧ Q (o.getD z) H3) : tDGet2 td ty tx σ H Q := z
theorem w_dpop1 {ty td : TE} (z : td σ H fun x H1 => ∃ a, x = V.ref a ∧ IsD H1 a ∧ ty σ H1 fun y H2 => ∃ kvs k v, H2 a = some (.dK kvs) ∧ y = kV k ∧ valV kvs k = some v ∧ Q v (upd H2 a (.dK (dropK kvs k)))) : tDPop1 td ty σ H Q := z
theorem w_dput {ty td tv : TE} (z : tv σ H fun v H1 => td σ H1 fun x H2 => ty σ H2 fun y H3 => ∃ a H4, x = V.ref a ∧ DPut H3 a y v H4 ∧ D.nx σ H4) : sDPut td ty tv D σ H := z
theorem w_ddel {ty td : TE} (z : td σ H fun x H1 => ty σ H1 fun y H2 => ∃ a kvs k, x = V.ref a ∧ H2 a = some (.dK kvs) ∧ y = kV k ∧ (valV kvs k).isSome = true ∧ D.nx σ (upd H2 a (.dK (dropK kvs k)))) : sDDel td ty D σ H := z
theorem w_dnew (z : ∀ p, H p = none → Q (V.ref p) (upd H p (.dK []))) : tDNewK σ H Q := z
theorem w_disp {trs : List (TE × TE)} (z : ∀ p, H p = none → tPairs trs σ (upd H p (.dK [])) fun ps H2 => H2 p = some (.dK []) ∧ ∃ kvs : List (Key × V), ps = kvs.map (fun kv => (kV kv.1, kv.2)) ∧ kvs.length ≤ 15 ∧ Q (.ref p) (upd H2 p (.dK (mergeK [] kvs)))) : tDisp trs σ H Q := z
theorem w_pcons {R : List (V × V) → Hp → Prop} {r : List (TE × TE)} (z : ta σ H fun x H1 => tb σ H1 fun y H2 => tPairs r σ H2 fun ps H3 => R ((x, y) :: ps) H3) : tPairs ((ta, tb) :: r) σ H R := z
theorem w_pnil {R : List (V × V) → Hp → Prop} (z : R [] H) : tPairs [] σ H R := z
theorem w_sfldaug {C : Addr} {f : Str} {rd : V → V → Hp → VK → Prop} {tv : TE} (z : ta σ H fun x H1 => ∃ a dx fs v, x = .ref a ∧ H1 a = some (.ins C dx fs) ∧ fs.lookup f = some v ∧
  tv σ H1 fun y H2 => rd v y H2 fun z H3 => ∃ dx' fs', H3 a = some (.ins C dx' fs') ∧ fs'.length < 1000 ∧ D.nx σ (upd H3 a (.ins C dx' (putF f z fs')))) : sFldAugC C f rd ta tv D σ H := z
theorem w_glst {n : Nat} {t : TGs} {R : L2.St → Hp → Prop} (h : SqL K H p xs) (hl : xs.length = n) (z : t xs σ H R) : gLst K n t (V.ref p) σ H R := ⟨p, xs, rfl, h, hl, z⟩
theorem w_lc {wi : TI} {g : TG} {tt : TT} {vs : List Nat} (z : wi σ H fun J H1 => ∀ D, H1 D = none → ∃ W : Nat → Nat → Hp → Prop, (∃ m, W 0 m (upd H1 D (.lst []))) ∧ ∀ i m H, W i m H →
  (J.stop i H ∧ Q (.ref D) H) ∨ (J.go i H ∧ ∃ Nx : Hp → Prop, (∀ H', Nx H' → ∃ m', m' < m ∧ W (i + 1) m' H') ∧ ∀ x H', J.yld i H x H' → g x (wipe σ vs) H' fun σ2 H2 => wipe σ2 vs = wipe σ vs ∧ tt σ2 H2 fun b H3 =>
    if b = true then te σ2 H3 fun y H4 => ∃ acc, H4 D = some (.lst acc) ∧ acc.length < sizeLine ∧ Nx (upd H4 D (.lst (acc ++ [y]))) else Nx H3)) : tLc wi g tt te vs σ H Q := z
theorem w_yes {QB : Bool → Hp → Prop} (z : QB true H) : tYes σ H QB := z
theorem p_geS {a b : Str} (z : Q (V.bl (!decide (a.cps.toList < b.cps.toList))) H) : rGeS (V.str a) (V.str b) H Q := ⟨a, b, rfl, rfl, z⟩
theorem p_gtS {a b : Str} (z : Q (V.bl (decide (b.cps.toList < a.cps.toList))) H) : rGtS (V.str a) (V.str b) H Q := ⟨a, b, rfl, rfl, z⟩
theorem p_isN (z : Q (.bl (decide (x = .non))) H) : rIsN x .non H Q := ⟨rfl, z⟩
theorem p_notN (z : Q (.bl (!decide (x = .non))) H) : rNotN x .non H Q := ⟨rfl, z⟩
theorem p_inTD {d : PyData} {ds : List PyData} (hd : Dp K H x d) (he : Dp K H y (.tuple ds)) (fd : Fine d) (fe : Fine (.tuple ds)) (z : Q (.bl (memTD d (.tuple ds))) H) : rInTD K false x y H Q := ⟨d, ds, hd, he, fd.shaped, fe.shaped, by
  have e : ((ds.any fun z => PyData.eqv z d) != false) = memTD d (.tuple ds) := by
    show _ = ds.any fun z => PyData.eqv z d
    cases (ds.any fun z => PyData.eqv z d) <;> rfl
  rw [e]; exact z⟩
theorem p_notInTD {d : PyData} {ds : List PyData} (hd : Dp K H x d) (he : Dp K H y (.tuple ds)) (fd : Fine d) (fe : Fine (.tuple ds)) (z : Q (.bl (!memTD d (.tuple ds))) H) : rInTD K true x y H Q := ⟨d, ds, hd, he, fd.shaped, fe.shaped, by
  have e : ((ds.any fun z => PyData.eqv z d) != true) = !memTD d (.tuple ds) := by
    show _ = !(ds.any fun z => PyData.eqv z d)
    cases (ds.any fun z => PyData.eqv z d) <;> rfl
  rw [e]; exact z⟩
theorem p_eqD {d e : PyData} (hd : Dp K H x d) (he : Dp K H y e) (fd : Fine d) (fe : Fine e) (z : Q (.bl (PyData.eqv d e)) H) : rEqD K x y H Q := ⟨d, e, hd, he, fd.shaped, fe.shaped, z⟩
theorem p_neD {d e : PyData} (hd : Dp K H x d) (he : Dp K H y e) (fd : Fine d) (fe : Fine e) (z : Q (.bl (!PyData.eqv d e)) H) : rNeD K x y H Q := ⟨d, e, hd, he, fd.shaped, fe.shaped, z⟩
theorem inV_strs (a : Str) (ws : List Str) : inV (V.str a) (ws.map V.str) = decide (a ∈ ws) := by
  induction ws with
  | nil => rfl
  | cons w ws ih =>
    show (eqV (V.str w) (V.str a) || inV (V.str a) (ws.map V.str)) = _
    rw [ih]
    show ((w == a) || decide (a ∈ ws)) = _
    by_cases h : w = a
    · simp [h]
    · have h2 : a ≠ w := fun e => h e.symm
      simp [h, h2]
theorem flat_strs (ws : List Str) : (ws.map V.str).all flatV = true := by
  rw [List.all_map]
  exact List.all_eq_true.mpr fun _ _ => rfl
theorem p_inStrs {a : Str} (ws : List Str) (h : SqL K H p (ws.map V.str) ∨ SqT K H p (ws.map V.str)) (z : Q (V.bl (decide (a ∈ ws))) H) : rIn K false (V.str a) (V.ref p) H Q := by
  refine ⟨p, _, rfl, h, rfl, flat_strs ws, ?_⟩
  show Q (V.bl (inV (V.str a) (ws.map V.str))) H
  rw [inV_strs]
  exact z
theorem p_notInStrs {a : Str} (ws : List Str) (h : SqL K H p (ws.map V.str) ∨ SqT K H p (ws.map V.str)) (z : Q (V.bl (decide (a ∉ ws))) H) : rIn K true (V.str a) (V.ref p) H Q := by
  refine ⟨p, _, rfl, h, rfl, flat_strs ws, ?_⟩
  show Q (V.bl (!inV (V.str a) (ws.map V.str))) H
  rw [inV_strs]
  have e : (!decide (a ∈ ws)) = decide (a ∉ ws) := by by_cases h : a ∈ ws <;> simp [h]
  rw [e]
  exact z
theorem p_spD {f : PyData → Bool} {G : Gv} {E : XK} {d : PyData} (h : Dp G.K H v d) (hf : Fine d) (k : ∀ H', Ext H H' → Q (.bl (f d)) H') : spD f G [v] H Q E := ⟨v, d, rfl, h, hf, k⟩
end
theorem sqT_up {K : PySem.W.Frag} {H H' : Hp} {a : Addr} {xs : List V} (e : Ext H H') (h : SqT K H a xs) : SqT K H' a xs := LO.SqT.ext h e
theorem sqL_up {K : PySem.W.Frag} {H H' : Hp} {a : Addr} {xs : List V} (e : Ext H H') (h : SqL K H a xs) : SqL K H' a xs := LO.SqL.ext h e
theorem dp_up {K : PySem.W.Frag} {H H' : Hp} {v : V} {d : PyData} (e : Ext H H') (h : Dp K H v d) : Dp K H' v d := LO.Dp.up h e
theorem dps_up {K : PySem.W.Frag} {H H' : Hp} {v : List V} {d : List PyData} (e : Ext H H') (h : DpAll K H v d) : DpAll K H' v d := LO.DpAll.up h e
theorem ext_at {H H' : Hp} {a : Addr} {o : HO} (e : Ext H H') (h : H a = some o) : H' a = some o := e a o h
abbrev S (l : List Nat) : Str := ⟨l.toArray⟩
theorem S_inj {a b : List Nat} (h : S a = S b) : a = b := congrArg (fun x : Str => x.cps.toList) h
theorem S_len (a : List Nat) : (S a).length = a.length := by simp [S, Str.length]
theorem S_tl (x : Str) : S x.cps.toList = x := TL.mk_tl x
theorem len_cps (x : Str) : x.length = x.cps.toList.length := by simp [Str.length]
theorem S_app (a b : List Nat) : S a ++ S b = S (a ++ b) := TL.ext_tl (TL.tl_append (S a) (S b))
theorem sl16 {n : Nat} (h : n ≤ 1000000) : n ≤ sizeLine := by rw [sizeLine_eq]; omega
theorem one_S (c : Nat) : (⟨#[c]⟩ : Str) = S [c] := rfl
theorem S_nil : (S [] : Str) = "" := by decide +kernel
theorem at_nat {α : Type} {l : List α} {i : Nat} {x : α} (h : l[i]? = some x) : atI l (i : Int) = some x := by
  have hi : i < l.length := (List.getElem?_eq_some_iff.mp h).1
  unfold atI ixN
  rw [if_pos (by omega), if_pos (by omega)]
  simpa using h
theorem val_at {α : Type} {l : List α} {r : Int} (h0 : 0 ≤ r) (h1 : r < l.length) : ∃ v, atI l r = some v ∧ v ∈ l := by
  obtain ⟨n, rfl⟩ := Int.eq_ofNat_of_zero_le h0
  have hn : n < l.length := by omega
  exact ⟨l[n], at_nat (List.getElem?_eq_getElem hn), List.getElem_mem hn⟩
theorem in_small (c : Nat) : c ∈ ("abcdefghijklmnopqrstuvwxyz" : Str).cps.toList ↔ 97 ≤ c ∧ c ≤ 122 := by
  have e : ("abcdefghijklmnopqrstuvwxyz" : Str).cps.toList = (List.range 26).map (· + 97) := by decide +kernel
  rw [e, List.mem_map]
  constructor
  · rintro ⟨x, hx, rfl⟩
    rw [List.mem_range] at hx
    omega
  · intro h
    exact ⟨c - 97, List.mem_range.mpr (by omega), by omega⟩
theorem in_digits (c : Nat) : c ∈ ("0123456789" : Str).cps.toList ↔ 48 ≤ c ∧ c ≤ 57 := by
  have e : ("0123456789" : Str).cps.toList = (List.range 10).map (· + 48) := by decide +kernel
  rw [e, List.mem_map]
  constructor
  · rintro ⟨x, hx, rfl⟩
    rw [List.mem_range] at hx
    omega
  · intro h
    exact ⟨c - 48, List.mem_range.mpr (by omega), by omega⟩
/-- a test of a list sign by sign -/
theorem all_take {α : Type} {f : α → Bool} {l : List α} {i : Nat} {x : α} (h : l[i]? = some x) (ha : (l.take i).all f = true) : (l.take (i + 1)).all f = f x := by
  rw [List.take_add_one, h, List.all_append, ha]
  simp
theorem all_no {α : Type} {f : α → Bool} {l : List α} {i : Nat} {x : α} (h : l[i]? = some x) (hx : f x = false) : l.all f = false := by
  rw [List.all_eq_false]
  exact ⟨x, List.mem_of_getElem? h, by rw [hx]; simp⟩
theorem range_no {f : Nat → Bool} {n i : Nat} (h : i < n) (hx : f i = false) : (List.range n).all f = false := by
  rw [List.all_eq_false]
  exact ⟨i, List.mem_range.mpr h, by rw [hx]; simp⟩
theorem range_succ_all {f : Nat → Bool} {i : Nat} (h : (List.range i).all f = true) : (List.range (i + 1)).all f = f i := by
  rw [List.range_succ, List.all_append, h]
  simp
end
section
/-! LoReadV: readings, printed by gen.py. -/
def N_is_name : List Str := ["thing", "char"]
def t_is_name (G : Gv) : TS :=
  (tSeq (tIfS (tOr (tNot (tB (tCB (rIsi G.K) (tCons (tVar 0) (tCons (tC (.ty "str")) tNil))))) (tNot (tTest (tChain rLeI rLeI (tC (.int 1)) (tCB (rLen G.K) (tCons (tVar 0) tNil)) (tC (.int 12)))))) (tRet (tC (.bl false))) tNext)
    (tSeq (tFor (iStr (tVar 0)) (gName 1) (tIfS (tAnd (tTest (tOp rNotInS (tVar 1) (tC (.str "abcdefghijklmnopqrstuvwxyz")))) (tTest (tOp rNotInS (tVar 1) (tC (.str "0123456789"))))) (tRet (tC (.bl false))) tNext))
    (tRet (tOp rInS (tOp rIxS (tVar 0) (tC (.int 0))) (tC (.str "abcdefghijklmnopqrstuvwxyz"))))))
def N_is_number : List Str := ["thing"]
def t_is_number (G : Gv) : TS :=
  (tSeq (tIfS (tOr (tNot (tB (tCB (rIsi G.K) (tCons (tVar 0) (tCons (tC (.ty "int")) tNil))))) (tB (tCB (rIsi G.K) (tCons (tVar 0) (tCons (tC (.ty "bool")) tNil))))) (tRet (tC (.bl false))) tNext)
    (tRet (tChain rLeI rLeI (tC (.int 1)) (tVar 0) (tC (.int 1000000000000000000)))))
def N_is_plain : List Str := ["text", "char"]
def t_is_plain (G : Gv) : TS :=
  (tSeq (tFor (iStr (tVar 0)) (gName 1) (tIfS (tNot (tTest (tChain rLeI rLeI (tC (.int 32)) (tCB rOrd (tCons (tVar 1) tNil)) (tC (.int 126))))) (tRet (tC (.bl false))) tNext))
    (tRet (tC (.bl true))))
def N_is_text : List Str := ["thing"]
def t_is_text (G : Gv) : TS :=
  (tSeq (tIfS (tOr (tNot (tB (tCB (rIsi G.K) (tCons (tVar 0) (tCons (tC (.ty "str")) tNil))))) (tNot (tTest (tChain rLeI rLeI (tC (.int 1)) (tCB (rLen G.K) (tCons (tVar 0) tNil)) (tC (.int 400)))))) (tRet (tC (.bl false))) tNext) (tRet (tCall (sp_is_plain G) [] E0 (tCons (tRepl "\n" "" (tVar 0)) tNil))))
def N_is_title : List Str := ["thing"]
def t_is_title (G : Gv) : TS :=
  (tRet (tAndV (tCB (rIsi G.K) (tCons (tVar 0) (tCons (tC (.ty "str")) tNil))) (tAndV (tOp rLeI (tCB (rLen G.K) (tCons (tVar 0) tNil)) (tC (.int 60))) (tCall (sp_is_plain G) [] E0 (tCons (tVar 0) tNil)))))
def N_is_ref : List Str := ["thing"]
def t_is_ref (G : Gv) : TS :=
  (tRet (tAndV (tCB (rIsi G.K) (tCons (tVar 0) (tCons (tC (.ty "tuple")) tNil))) (tAndV (tOp rEq (tCB (rLen G.K) (tCons (tVar 0) tNil)) (tC (.int 2))) (tAndV (tCall (sp_is_name G) [] E0 (tCons (tOp (rIxT G.K) (tVar 0) (tC (.int 0))) tNil)) (tCall (sp_is_number G) [] E0 (tCons (tOp (rIxT G.K) (tVar 0) (tC (.int 1))) tNil))))))
def N_is_room : List Str := ["thing"]
def t_is_room (G : Gv) : TS :=
  (tRet (tAndV (tCB (rIsi G.K) (tCons (tVar 0) (tCons (tC (.ty "tuple")) tNil))) (tAndV (tOp rEq (tCB (rLen G.K) (tCons (tVar 0) tNil)) (tC (.int 2))) (tAndV (tCall (sp_is_name G) [] E0 (tCons (tOp (rIxT G.K) (tVar 0) (tC (.int 0))) tNil)) (tCall (sp_is_name G) [] E0 (tCons (tOp (rIxT G.K) (tVar 0) (tC (.int 1))) tNil))))))
def N_is_members : List Str := ["thing", "index", "name"]
def t_is_members (G : Gv) : TS :=
  (tSeq (tIfS (tOr (tNot (tB (tCB (rIsi G.K) (tCons (tVar 0) (tCons (tC (.ty "tuple")) tNil))))) (tTest (tOp rGtI (tCB (rLen G.K) (tCons (tVar 0) tNil)) (tC (.int 15))))) (tRet (tC (.bl false))) tNext)
    (tSeq (tFor (iEnumT G.K (tCons (tVar 0) tNil)) (gTup G.K 2 (gCons (gName 1) (gCons (gName 2) gNil))) (tSeq (tIfS (tNot (tB (tCall (sp_is_name G) [] E0 (tCons (tVar 2) tNil)))) (tRet (tC (.bl false))) tNext)
    (tIfS (tAnd (tTest (tOp rGtI (tVar 1) (tC (.int 0)))) (tTest (tOp rLeS (tVar 2) (tOp (rIxT G.K) (tVar 0) (tOp rSubI (tVar 1) (tC (.int 1))))))) (tRet (tC (.bl false))) tNext)))
    (tRet (tC (.bl true)))))
def N_is_pair : List Str := ["thing"]
def t_is_pair (G : Gv) : TS :=
  (tRet (tAndV (tCB (rIsi G.K) (tCons (tVar 0) (tCons (tC (.ty "tuple")) tNil))) (tAndV (tOp rEq (tCB (rLen G.K) (tCons (tVar 0) tNil)) (tC (.int 2))) (tAndV (tCall (sp_is_name G) [] E0 (tCons (tOp (rIxT G.K) (tVar 0) (tC (.int 0))) tNil)) (tCall (sp_is_number G) [] E0 (tCons (tOp (rIxT G.K) (tVar 0) (tC (.int 1))) tNil))))))
def N_is_body : List Str := ["thing", "kind"]
def t_is_body (G : Gv) : TS :=
  (tSeq (tIfS (tOr (tNot (tB (tCB (rIsi G.K) (tCons (tVar 0) (tCons (tC (.ty "tuple")) tNil))))) (tOr (tTest (tOp rEq (tCB (rLen G.K) (tCons (tVar 0) tNil)) (tC (.int 0)))) (tNot (tB (tCB (rIsi G.K) (tCons (tOp (rIxT G.K) (tVar 0) (tC (.int 0))) (tCons (tC (.ty "str")) tNil))))))) (tRet (tC (.bl false))) tNext)
    (tSeq (tAsg (tOp (rIxT G.K) (tVar 0) (tC (.int 0))) (gName 1))
    (tSeq (tIfS (tTest (tOp (rNeD G.K) (tKGet [("found", 2), ("say", 1), ("reply", 2), ("edit", 2), ("recall", 1), ("mark", 2), ("title", 1), ("add", 1), ("cut", 1), ("hand", 1), ("seen", 0)] (tVar 1)) (tOp rSubI (tCB (rLen G.K) (tCons (tVar 0) tNil)) (tC (.int 1))))) (tRet (tC (.bl false))) tNext)
    (tSeq (tIfS (tTest (tOp rEq (tVar 1) (tC (.str "found")))) (tRet (tAndV (tCall (sp_is_title G) [] E0 (tCons (tOp (rIxT G.K) (tVar 0) (tC (.int 1))) tNil)) (tCall (sp_is_members G) [] E0 (tCons (tOp (rIxT G.K) (tVar 0) (tC (.int 2))) tNil)))) tNext)
    (tSeq (tIfS (tAnd (tTest (tOp (rIn G.K false) (tVar 1) (tTup (tCons (tC (.str "reply")) (tCons (tC (.str "edit")) (tCons (tC (.str "recall")) (tCons (tC (.str "mark")) tNil))))))) (tNot (tB (tCall (sp_is_ref G) [] E0 (tCons (tOp (rIxT G.K) (tVar 0) (tC (.int 1))) tNil))))) (tRet (tC (.bl false))) tNext)
    (tSeq (tIfS (tTest (tOp (rIn G.K false) (tVar 1) (tTup (tCons (tC (.str "say")) (tCons (tC (.str "reply")) (tCons (tC (.str "edit")) tNil)))))) (tRet (tCall (sp_is_text G) [] E0 (tCons (tOp (rIxT G.K) (tVar 0) (tUn rNeg (tC (.int 1)))) tNil))) tNext)
    (tSeq (tIfS (tTest (tOp rEq (tVar 1) (tC (.str "title")))) (tRet (tCall (sp_is_title G) [] E0 (tCons (tOp (rIxT G.K) (tVar 0) (tC (.int 1))) tNil))) tNext)
    (tSeq (tIfS (tTest (tOp (rIn G.K false) (tVar 1) (tTup (tCons (tC (.str "mark")) (tCons (tC (.str "add")) (tCons (tC (.str "cut")) (tCons (tC (.str "hand")) tNil))))))) (tRet (tCall (sp_is_name G) [] E0 (tCons (tOp (rIxT G.K) (tVar 0) (tUn rNeg (tC (.int 1)))) tNil))) tNext)
    (tRet (tC (.bl true)))))))))))
def N_is_seen : List Str := ["thing", "index", "pair"]
def t_is_seen (G : Gv) : TS :=
  (tSeq (tIfS (tNot (tB (tCB (rIsi G.K) (tCons (tVar 0) (tCons (tC (.ty "tuple")) tNil))))) (tRet (tC (.bl false))) tNext)
    (tSeq (tFor (iEnumT G.K (tCons (tVar 0) tNil)) (gTup G.K 2 (gCons (gName 1) (gCons (gName 2) gNil))) (tSeq (tIfS (tNot (tB (tCall (sp_is_ref G) [] E0 (tCons (tVar 2) tNil)))) (tRet (tC (.bl false))) tNext)
    (tIfS (tAnd (tTest (tOp rGtI (tVar 1) (tC (.int 0)))) (tTest (tOp rLeS (tOp (rIxT G.K) (tVar 2) (tC (.int 0))) (tOp (rIxT G.K) (tOp (rIxT G.K) (tVar 0) (tOp rSubI (tVar 1) (tC (.int 1)))) (tC (.int 0)))))) (tRet (tC (.bl false))) tNext)))
    (tRet (tC (.bl true)))))
def N_are_counts : List Str := ["thing", "place", "pair"]
def t_are_counts (G : Gv) : TS :=
  (tSeq (tIfS (tNot (tB (tCB (rIsi G.K) (tCons (tVar 0) (tCons (tC (.ty "tuple")) tNil))))) (tRet (tC (.bl false))) tNext)
    (tSeq (tFor (iEnumT G.K (tCons (tVar 0) tNil)) (gTup G.K 2 (gCons (gName 1) (gCons (gName 2) gNil))) (tSeq (tIfS (tNot (tB (tCall (sp_is_pair G) [] E0 (tCons (tVar 2) tNil)))) (tRet (tC (.bl false))) tNext)
    (tIfS (tAnd (tTest (tOp rGtI (tVar 1) (tC (.int 0)))) (tTest (tOp rGeS (tOp (rIxT G.K) (tOp (rIxT G.K) (tVar 0) (tOp rSubI (tVar 1) (tC (.int 1)))) (tC (.int 0))) (tOp (rIxT G.K) (tVar 2) (tC (.int 0)))))) (tRet (tC (.bl false))) tNext)))
    (tRet (tC (.bl true)))))
def N_is_letter : List Str := ["thing", "author", "number", "stamp", "seen", "body"]
def t_is_letter (G : Gv) : TS :=
  (tSeq (tIfS (tOr (tNot (tB (tCB (rIsi G.K) (tCons (tVar 0) (tCons (tC (.ty "tuple")) tNil))))) (tTest (tOp rNe (tCB (rLen G.K) (tCons (tVar 0) tNil)) (tC (.int 5))))) (tRet (tC (.bl false))) tNext)
    (tSeq (tAsg (tVar 0) (gTup G.K 5 (gCons (gName 1) (gCons (gName 2) (gCons (gName 3) (gCons (gName 4) (gCons (gName 5) gNil)))))))
    (tSeq (tIfS (tOr (tNot (tB (tCall (sp_is_name G) [] E0 (tCons (tVar 1) tNil)))) (tOr (tNot (tB (tCall (sp_is_number G) [] E0 (tCons (tVar 2) tNil)))) (tNot (tB (tCall (sp_is_number G) [] E0 (tCons (tVar 3) tNil)))))) (tRet (tC (.bl false))) tNext)
    (tSeq (tIfS (tOr (tNot (tB (tCall (sp_is_seen G) [] E0 (tCons (tVar 4) tNil)))) (tNot (tB (tCall (sp_is_body G) [] E0 (tCons (tVar 5) tNil))))) (tRet (tC (.bl false))) tNext)
    (tSeq (tIfS (tOr (tTest (tOp (rInTD G.K true) (tTup (tCons (tVar 1) (tCons (tVar 2) tNil))) (tVar 4))) (tTest (tOp rLtI (tVar 3) (tVar 2)))) (tRet (tC (.bl false))) tNext)
    (tSeq (tIfS (tTest (tOp rEq (tOp (rIxT G.K) (tVar 5) (tC (.int 0))) (tC (.str "found")))) (tRet (tAndV (tOp rEq (tVar 3) (tC (.int 1))) (tAndV (tOp (rEqD G.K) (tVar 4) (tTup (tCons (tTup (tCons (tVar 1) (tCons (tC (.int 1)) tNil))) tNil))) (tOp (rIn G.K true) (tVar 1) (tOp (rIxT G.K) (tVar 5) (tC (.int 2))))))) tNext)
    (tRet (tOp rGtI (tVar 3) (tC (.int 1))))))))))
def N_are_values : List Str := ["thing", "value"]
def t_are_values (G : Gv) : TS :=
  (tRet (tAndV (tCB (rIsi G.K) (tCons (tVar 0) (tCons (tC (.ty "tuple")) tNil))) (tAndV (tOp rGtI (tCB (rLen G.K) (tCons (tVar 0) tNil)) (tC (.int 0))) (tCB (rAll G.K) (tCons (tLc (iTup G.K (tVar 0)) (gName 1) tYes (tCall (sp_is_letter G) [] E0 (tCons (tVar 1) tNil)) [1]) tNil)))))
def N_is_parcel : List Str := ["thing", "kind", "room", "rows"]
def t_is_parcel (G : Gv) : TS :=
  (tSeq (tIfS (tOr (tNot (tB (tCB (rIsi G.K) (tCons (tVar 0) (tCons (tC (.ty "tuple")) tNil))))) (tOr (tTest (tOp rNe (tCB (rLen G.K) (tCons (tVar 0) tNil)) (tC (.int 3)))) (tNot (tB (tCB (rIsi G.K) (tCons (tOp (rIxT G.K) (tVar 0) (tC (.int 0))) (tCons (tC (.ty "str")) tNil))))))) (tRet (tC (.bl false))) tNext)
    (tSeq (tAsg (tVar 0) (gTup G.K 3 (gCons (gName 1) (gCons (gName 2) (gCons (gName 3) gNil)))))
    (tSeq (tIfS (tNot (tB (tCall (sp_is_room G) [] E0 (tCons (tVar 2) tNil)))) (tRet (tC (.bl false))) tNext)
    (tSeq (tIfS (tTest (tOp rEq (tVar 1) (tC (.str "have")))) (tRet (tCall (sp_are_counts G) [] E0 (tCons (tVar 3) tNil))) tNext)
    (tRet (tAndV (tOp rEq (tVar 1) (tC (.str "letters"))) (tCall (sp_are_values G) [] E0 (tCons (tVar 3) tNil))))))))
end
local macro_rules | `(tactic| walk_at "ne") => `(tactic| first
  | assumption | (apply Ne.symm; assumption)
  | exact ne_of_none (by assumption) (by assumption) | exact (ne_of_none (by assumption) (by assumption)).symm
  | exact ne_of (by assumption) (by assumption) (by intro z; cases z)
  | exact ne_of_none (by walk_at "look") (by assumption) | exact (ne_of_none (by walk_at "look") (by assumption)).symm)
local macro_rules | `(tactic| walk_at "look") => `(tactic| first
  | assumption | exact upd_same | (refine Eq.trans (upd_ne ?lkn) ?lk; (case lkn => walk_at "ne"); (case lk => walk_at "look")))
local macro_rules | `(tactic| walk_at "seq") => `(tactic| first
  | assumption | exact SqL.of (by walk_at "look") | exact SqT.of (by walk_at "look"))
local macro_rules | `(tactic| walk_at "arith") => `(tactic| first
  | assumption | omega | decide | (simp only [List.length_nil, List.length_cons] <;> decide) | (constructor <;> omega) | (refine Or.inl ⟨?_, ?_⟩ <;> omega) | (refine Or.inr ⟨?_, ?_⟩ <;> omega))
local macro_rules | `(tactic| walk_at "wp1") => `(tactic| first
  | with_reducible refine w_seq ?_ | with_reducible refine w_asg ?_ | with_reducible refine w_ret ?_ | with_reducible refine w_c ?_
  | ((with_reducible show tVar _ _ _ _); refine w_var rfl ?_) | with_reducible refine w_op ?_ | with_reducible refine w_cons ?_ | with_reducible refine w_nil ?_
  | with_reducible refine w_if ?_ | with_reducible refine w_test ?_ | with_reducible refine w_bl ?_ | with_reducible refine w_B ?_
  | with_reducible refine w_cb ?_ | with_reducible refine w_call ?_ | with_reducible refine w_un ?_ | with_reducible refine w_drop ?_
  | with_reducible refine w_next ?_ | with_reducible refine w_not ?_ | with_reducible refine w_and ?_ | with_reducible refine w_or ?_
  | with_reducible refine w_tru ?_ | with_reducible refine w_andV ?_ | with_reducible refine w_orV ?_ | with_reducible refine w_notV ?_ | with_reducible refine w_blI ?_
  | with_reducible refine w_ife ?_ | with_reducible refine w_retN ?_ | with_reducible refine w_brk ?_ | with_reducible refine w_cont ?_
  | ((with_reducible show tAug _ _ _ _ _ _); refine w_aug rfl ?_) | with_reducible refine w_gname ?_ | with_reducible refine w_asgT ?_ | with_reducible refine w_gsub ?_
  | with_reducible refine w_sl ?_ | with_reducible refine w_part ?_ | with_reducible refine w_nopart ?_ | with_reducible refine p_part ?_
  | with_reducible refine w_for ?_ | with_reducible refine w_rng1 ?_ | with_reducible refine w_rng2 ?_ | with_reducible refine w_ilist ?_ | with_reducible refine w_itup ?_ | with_reducible refine w_istr ?_
  | with_reducible refine p_addI ?_ | with_reducible refine p_subI ?_ | with_reducible refine p_ltI ?_ | with_reducible refine p_leI ?_ | with_reducible refine p_gtI ?_ | with_reducible refine p_geI ?_
  | with_reducible refine p_eqI ?_ | with_reducible refine p_neI ?_ | with_reducible refine p_eqS ?_ | with_reducible refine p_neS ?_ | with_reducible refine p_ltS ?_ | with_reducible refine p_leS ?_
  | with_reducible refine p_int1 ?_ | with_reducible refine p_min2 ?_ | with_reducible refine p_max2 ?_ | with_reducible refine p_inS ?_ | with_reducible refine p_notInS ?_
  | ((with_reducible show rMulI _ _ _ _); refine p_mulI (by walk_at "arith") ?_) | ((with_reducible show rModI _ _ _ _); refine p_modI (by walk_at "arith") ?_)
  | ((with_reducible show rDivI _ _ _ _); refine p_divI (by walk_at "arith") (by walk_at "arith") ?_)
  | ((with_reducible show rPowI _ _ _ _); refine p_powI (by decide) ?_) | ((with_reducible show rAddS _ _ _ _); refine p_addS (by walk_at "arith") ?_)
  | ((with_reducible show rStrI _ _ _); refine p_strI (by walk_at "arith") ?_)
  | ((with_reducible show rLen _ [V.str _] _ _); refine p_lenS (by walk_at "arith") ?_) | ((with_reducible show rLen _ [V.ref _] _ _); first | refine p_lenL (by walk_at "seq") ?_ | refine p_lenT (by walk_at "seq") ?_)
  | ((with_reducible show rIxL _ _ _ _ _); refine p_ixL (by walk_at "seq") (by first | exact rfl | exact at_zero) ?_) | ((with_reducible show rIxT _ _ _ _ _); refine p_ixT (by walk_at "seq") (by first | exact rfl | exact at_zero) ?_)
  | ((with_reducible show rSlS _ _ _ _ _); refine p_slS (by walk_at "arith") ?_) | ((with_reducible show rLower _ _ _ _); refine p_lower (by walk_at "arith") ?_)
  | ((with_reducible show rSetL _ _ _ _ _); refine p_setL (by walk_at "look") (by exact rfl) ?_)
  | ((with_reducible show rAppend _ _ _ _); refine p_append (by walk_at "look") (by walk_at "arith") ?_)
  | with_reducible refine w_bm ?_ | with_reducible refine w_bm0 ?_ | ((with_reducible show tyV _ _ (V.str _) _ ∧ _); refine ⟨tyS rfl, ?_⟩) | ((with_reducible show tyV _ _ (V.ref _) _ ∧ _); refine ⟨tyL (by walk_at "look"), ?_⟩)
  | (refine w_truS (by walk_at "arith") ?_)
  | with_reducible refine p_ipAddI ?_ | with_reducible refine p_ipSubI ?_ | ((with_reducible show ipAddS _ _ _ _); refine p_ipAddS (by walk_at "arith") ?_)
  | with_reducible refine iteT ?_ | with_reducible refine iteF ?_ | with_reducible refine ifN ?_
  | with_reducible refine w_tup ?_ | with_reducible refine w_lst ?_)
local macro_rules | `(tactic| walk_at "wp") => `(tactic| repeat walk_at "wp1")
local macro_rules | `(tactic| walk_at "ext") => `(tactic| first
  | assumption | exact Ext.refl _ | (refine Ext.new ?_ (by first | assumption | walk_at "fresh"); walk_at "ext") | (refine Ext.trans ?_ (by assumption); walk_at "ext"))
local macro_rules | `(tactic| walk_at "up") => `(tactic| first
  | assumption | (refine Eq.trans (upd_ne ?lkn) ?lk; (case lkn => walk_at "ne"); (case lk => walk_at "up"))
  | exact upd_same | (apply LO.ext_at (by assumption); walk_at "up"))
local macro_rules | `(tactic| walk_at "seq") => `(tactic| first
  | assumption | exact SqL.of (by walk_at "look") | exact SqT.of (by walk_at "look")
  | (refine' LO.sqT_up ?upe ?uph; (case upe => assumption); (case uph => walk_at "seq")) | (refine' LO.sqT_up (Ext.new1 ?upe) ?uph; (case upe => assumption); (case uph => walk_at "seq"))
  | (refine' LO.sqL_up ?upe ?uph; (case upe => assumption); (case uph => walk_at "seq")) | (refine' LO.sqL_up (Ext.new1 ?upe) ?uph; (case upe => assumption); (case uph => walk_at "seq")))
local macro_rules | `(tactic| walk_at "dp") => `(tactic| first
  | assumption | exact Dp.str _ | exact Dp.int _ | exact Dp.non | exact Dp.bl _
  | (refine' LO.dp_up ?upe ?uph; (case upe => assumption); (case uph => walk_at "dp")) | (refine' LO.dp_up (Ext.new1 ?upe) ?uph; (case upe => assumption); (case uph => walk_at "dp"))
  | (refine Dp.tup (by walk_at "seq") ?_; walk_at "dps") | (refine Dp.lst (by walk_at "seq") ?_; walk_at "dps"))
local macro_rules | `(tactic| walk_at "dps") => `(tactic| first
  | assumption | exact DpAll.nil | (refine DpAll.cons ?_ ?_; (next => walk_at "dp"); (next => walk_at "dps"))
  | (refine' LO.dps_up ?upe ?uph; (case upe => assumption); (case uph => walk_at "dps")) | (refine' LO.dps_up (Ext.new1 ?upe) ?uph; (case upe => assumption); (case uph => walk_at "dps")))
local macro_rules | `(tactic| walk_at "wp1") => `(tactic| first
  | with_reducible refine w_chain ?_ | with_reducible refine w_gcons ?_ | with_reducible refine w_gnil ?_ | with_reducible refine w_enumT ?_ | with_reducible refine w_kget ?_
  | ((with_reducible show gTup _ _ _ _ _ _ _); refine w_gtup (by walk_at "seq") (by exact rfl) ?_)
  | ((with_reducible show rIsi _ [_, V.ty _] _ _); first | refine p_isi (b := true) (by walk_at "dp") (by simp) (by exact rfl) ?_ | refine p_isi (b := false) (by walk_at "dp") (by simp) (by exact rfl) ?_)
  | with_reducible refine w_din ?_ | with_reducible refine w_dnotin ?_ | with_reducible refine w_dget ?_ | with_reducible refine w_dget1 ?_ | with_reducible refine w_dget2 ?_ | with_reducible refine w_dpop1 ?_ | with_reducible refine w_dput ?_ | with_reducible refine w_ddel ?_ | with_reducible refine w_dnew ?_
  | with_reducible refine w_disp ?_ | with_reducible refine w_pcons ?_ | with_reducible refine w_pnil ?_ | with_reducible refine w_sfldaug ?_ | ((with_reducible show gLst _ _ _ _ _ _ _); refine w_glst (by walk_at "seq") (by exact rfl) ?_)
  | with_reducible refine w_lc ?_ | with_reducible refine w_yes ?_ | with_reducible refine p_ordS ?_ | with_reducible refine p_geS ?_ | with_reducible refine p_gtS ?_ | with_reducible refine p_isN ?_ | with_reducible refine p_notN ?_
  | with_reducible refine w_fld ?_ | with_reducible refine w_sfld ?_ | with_reducible refine w_meth ?_ | with_reducible refine w_methS ?_ | with_reducible refine w_callS ?_
  | with_reducible refine w_make ?_ | with_reducible refine w_makeS ?_ | with_reducible refine w_raise ?_ | with_reducible refine w_repl ?_)
section
/-! LoValP: the tests of data. -/
variable {G : Gv}
theorem pure_is_number (vs : List V) (H : Hp) (Q : VK) (E : XK) (h : sp_is_number G vs H Q E) : t_is_number G { nx := fun _ H' => Q .non H', rt := Q } (L2.start N_is_number vs) H := by
  obtain ⟨v, d, rfl, hD, hF, k⟩ := h
  have k0 := k H (Ext.refl _)
  have hD0 := hD
  show tSeq _ _ _ [some v] H
  cases hD with
  | int i =>
    walk_at "wp"
    refine ifD (fun h1 => ?_) (fun h1 => ?_)
    · walk_at "wp"
      have e : isNumD (.int i) = decide (i ≤ 1000000000000000000) := by
        show numI i = _
        unfold numI
        by_cases h2 : i ≤ 1000000000000000000
        · rw [decide_eq_true h2, decide_eq_true ⟨h1, by omega⟩]
        · rw [decide_eq_false h2, decide_eq_false (fun z => h2 (by omega))]
      rw [e] at k0
      exact k0
    · have e : isNumD (.int i) = false := by
        show numI i = _
        unfold numI
        rw [decide_eq_false (fun z => h1 z.1)]
      rw [e] at k0
      exact k0
  | _ => walk_at "wp"; exact k0
theorem pure_is_plain (vs : List V) (H : Hp) (Q : VK) (E : XK) (h : sp_is_plain G vs H Q E) : t_is_plain G { nx := fun _ H' => Q .non H', rt := Q } (L2.start N_is_plain vs) H := by
  obtain ⟨z, rfl, k⟩ := h
  show tSeq _ _ _ [some (V.str z), none] H
  walk_at "wp"
  refine l_str (fun i σ' H' => H' = H ∧ (∃ v, σ' = [some (V.str z), v]) ∧ plainL (z.cps.toList.take i) = true) ⟨rfl, ⟨_, rfl⟩, rfl⟩ ?_ ?_
  · rintro i c σ' H' hc ⟨rfl, ⟨v, rfl⟩, hp⟩
    have no : ¬ (32 ≤ c ∧ c ≤ 126) → Q (V.bl false) H' := fun h => by
      have e : plainL z.cps.toList = false := all_no hc (decide_eq_false h)
      rw [e] at k
      exact k
    walk_at "wp"
    refine ifD (fun h1 => ?_) (fun h1 => ?_)
    · walk_at "wp"
      refine ifD (fun h2 => ?_) (fun h2 => ?_)
      · walk_at "wp"
        refine ⟨rfl, ⟨_, rfl⟩, ?_⟩
        show List.all _ _ = true
        rw [all_take hc hp]
        exact decide_eq_true ⟨by omega, by omega⟩
      · exact no (fun z => h2 (by omega))
    · walk_at "wp"
      exact no (fun z => h1 (by omega))
  · rintro σ' H' ⟨rfl, ⟨v, rfl⟩, hp⟩
    walk_at "wp"
    rw [List.take_length] at hp
    rw [hp] at k
    exact k
theorem in_az (c : Nat) : c ∈ ("abcdefghijklmnopqrstuvwxyz" : Str).cps.toList ↔ smallC c = true := by
  rw [in_small]
  unfold smallC
  exact decide_eq_true_iff.symm
theorem in_09 (c : Nat) : (c ∈ ("abcdefghijklmnopqrstuvwxyz" : Str).cps.toList ∨ c ∈ ("0123456789" : Str).cps.toList) ↔ wordC c = true := by
  rw [in_az, in_digits]
  unfold wordC
  rw [Bool.or_eq_true, decide_eq_true_iff]
theorem pure_is_name (vs : List V) (H : Hp) (Q : VK) (E : XK) (h : sp_is_name G vs H Q E) : t_is_name G { nx := fun _ H' => Q .non H', rt := Q } (L2.start N_is_name vs) H := by
  obtain ⟨v, d, rfl, hD, hF, k⟩ := h
  have k0 := k H (Ext.refl _)
  have hD0 := hD
  show tSeq _ _ _ [some v, none] H
  cases hD with
  | str z =>
    have hz := sl16 (Nat.le_trans hF.strLen (by decide))
    have hl := len_cps z
    have hk : isNameD (.str z) = nameL z.cps.toList := rfl
    rw [hk] at k0
    have no : nameL z.cps.toList = false → Q (V.bl false) H := fun e => by rw [e] at k0; exact k0
    have nol : ¬ (1 ≤ z.length ∧ z.length ≤ 12) → Q (V.bl false) H := fun e => no (by
      unfold nameL
      rw [← hl, decide_eq_false e]
      rfl)
    walk_at "wp"
    refine ifD (fun h1 => ?_) (fun h1 => ?_)
    · walk_at "wp"
      refine ifD (fun h2 => ?_) (fun h2 => ?_)
      · walk_at "wp"
        refine l_str (fun i σ' H' => H' = H ∧ (∃ v, σ' = [some (V.str z), v]) ∧ (z.cps.toList.take i).all wordC = true) ⟨rfl, ⟨_, rfl⟩, rfl⟩ ?_ ?_
        · rintro i c σ' H' hc ⟨rfl, ⟨v, rfl⟩, hp⟩
          have yes : wordC c = true → ((z.cps.toList.take (i + 1)).all wordC = true) := fun e => by rw [all_take hc hp, e]
          walk_at "wp"
          refine ifD (fun h3 => ?_) (fun h3 => ?_)
          · walk_at "wp"
            refine ifD (fun h4 => ?_) (fun h4 => ?_)
            · walk_at "wp"
              refine no ?_
              have e : wordC c = false := by
                rw [← Bool.not_eq_true]
                exact fun w => ((in_09 c).mpr w).elim h3 h4
              unfold nameL
              rw [all_no hc e]
              simp
            · walk_at "wp"
              exact ⟨rfl, ⟨_, rfl⟩, yes ((in_09 c).mp (.inr (Classical.not_not.mp h4)))⟩
          · walk_at "wp"
            exact ⟨rfl, ⟨_, rfl⟩, yes ((in_09 c).mp (.inl (Classical.not_not.mp h3)))⟩
        · rintro σ' H' ⟨rfl, ⟨v, rfl⟩, hp⟩
          rw [List.take_length] at hp
          obtain ⟨c, hc⟩ : ∃ c, z.cps.toList[0]? = some c := ⟨z.cps.toList[0]'(by omega), List.getElem?_eq_getElem _⟩
          walk_at "wp"
          refine p_ixS (i := 0) hz (at_nat hc) ?_
          walk_at "wp"
          have e : nameL z.cps.toList = smallC c := by
            unfold nameL
            rw [hp, List.getD_eq_getElem?_getD, hc, decide_eq_true (by omega)]
            simp
          rw [e] at k0
          have e2 : decide (c ∈ ("abcdefghijklmnopqrstuvwxyz" : Str).cps.toList) = smallC c := by
            rw [Bool.eq_iff_iff, decide_eq_true_iff]
            exact in_az c
          show Q (V.bl (decide (c ∈ ("abcdefghijklmnopqrstuvwxyz" : Str).cps.toList))) _
          rw [e2]
          exact k0
      · walk_at "wp"
        exact nol (fun z => h2 (by omega))
    · walk_at "wp"
      exact nol (fun z => h1 (by omega))
  | _ => walk_at "wp"; exact k0
theorem pure_is_title (vs : List V) (H : Hp) (Q : VK) (E : XK) (h : sp_is_title G vs H Q E) : t_is_title G { nx := fun _ H' => Q .non H', rt := Q } (L2.start N_is_title vs) H := by
  obtain ⟨v, d, rfl, hD, hF, k⟩ := h
  have k0 := k H (Ext.refl _)
  have hD0 := hD
  show tRet _ _ [some v] H
  cases hD with
  | str z =>
    have hz := sl16 (Nat.le_trans hF.strLen (by decide))
    walk_at "wp"
    have hk : isTitleD (.str z) = (decide (z.length ≤ 60) && plainL z.cps.toList) := rfl
    rw [hk] at k0
    refine ifD (fun h1 => ?_) (fun h1 => ?_)
    · walk_at "wp"
      refine ⟨z, rfl, ?_⟩
      rw [decide_eq_true (by omega)] at k0
      exact k0
    · rw [decide_eq_false (fun z => h1 (by omega))] at k0
      exact k0
  | _ => walk_at "wp"; exact k0
theorem pure_is_text (vs : List V) (H : Hp) (Q : VK) (E : XK) (h : sp_is_text G vs H Q E) : t_is_text G { nx := fun _ H' => Q .non H', rt := Q } (L2.start N_is_text vs) H := by
  obtain ⟨v, d, rfl, hD, hF, k⟩ := h
  have k0 := k H (Ext.refl _)
  have hD0 := hD
  show tSeq _ _ _ [some v] H
  cases hD with
  | str z =>
    have hz := sl16 (Nat.le_trans hF.strLen (by decide))
    have hk : isTextD (.str z) = (decide (1 ≤ z.length ∧ z.length ≤ 400) && plainL (Txt.replace z "\n" "").cps.toList) := rfl
    rw [hk] at k0
    walk_at "wp"
    refine ifD (fun h1 => ?_) (fun h1 => ?_)
    · walk_at "wp"
      refine ifD (fun h2 => ?_) (fun h2 => ?_)
      · walk_at "wp"
        refine ⟨z, rfl, ?_, ?_⟩
        · have e : ("" : Str).length = 0 := by decide +kernel
          rw [e]
          have := hF.strLen
          omega
        · walk_at "wp"
          refine ⟨_, rfl, ?_⟩
          rw [decide_eq_true (by omega)] at k0
          exact k0
      · rw [decide_eq_false (fun z => h2 (by omega))] at k0
        exact k0
    · rw [decide_eq_false (fun z => h1 (by omega))] at k0
      walk_at "wp"
      exact k0
  | _ => walk_at "wp"; exact k0
/-- the two items of a pair -/
theorem two_of {K : PySem.W.Frag} {H : Hp} {xs : List V} {ds : List PyData} (h : DpAll K H xs ds) (hl : xs.length = 2) : ∃ x y d e, xs = [x, y] ∧ ds = [d, e] ∧ Dp K H x d ∧ Dp K H y e := by
  cases h with
  | nil => cases hl
  | cons h1 r =>
    cases r with
    | nil => cases hl
    | cons h2 r =>
      cases r with
      | nil => exact ⟨_, _, _, _, rfl, rfl, h1, h2⟩
      | cons h3 r => simp at hl
theorem not_two {f g : PyData → Bool} {ds : List PyData} (hl : ds.length ≠ 2) : (match (PyData.tuple ds) with | .tuple [a, b] => f a && g b | _ => false) = false := by
  match ds, hl with
  | [], _ => rfl
  | [_], _ => rfl
  | [_, _], h => exact absurd rfl h
  | _ :: _ :: _ :: _, _ => rfl
theorem not_ref {ds : List PyData} (hl : ds.length ≠ 2) : isRefD (.tuple ds) = false := by
  match ds, hl with
  | [], _ => rfl
  | [_], _ => rfl
  | [_, _], h => exact absurd rfl h
  | _ :: _ :: _ :: _, _ => rfl
theorem not_room {ds : List PyData} (hl : ds.length ≠ 2) : isRoomD (.tuple ds) = false := by
  match ds, hl with
  | [], _ => rfl
  | [_], _ => rfl
  | [_, _], h => exact absurd rfl h
  | _ :: _ :: _ :: _, _ => rfl
theorem pure_is_ref (vs : List V) (H : Hp) (Q : VK) (E : XK) (h : sp_is_ref G vs H Q E) : t_is_ref G { nx := fun _ H' => Q .non H', rt := Q } (L2.start N_is_ref vs) H := by
  obtain ⟨v, d, rfl, hD, hF, k⟩ := h
  have k0 := k H (Ext.refl _)
  have hD0 := hD
  show tRet _ _ [some v] H
  cases hD with
  | @tup a xs ds q r =>
    have hl := LO.DpAll.len r
    walk_at "wp"
    refine ifD (fun h1 => ?_) (fun h1 => ?_)
    · obtain ⟨x, y, d, e, rfl, rfl, d1, d2⟩ := two_of r (by omega)
      walk_at "wp"
      refine p_spD d1 (hF.mem (by simp)) fun H1 e1 => ?_
      walk_at "wp"
      have hk : isRefD (.tuple [d, e]) = (isNameD d && isNumD e) := rfl
      rw [hk] at k
      refine ifB (fun h2 => ?_) (fun h2 => ?_)
      · walk_at "wp"
        refine p_spD (by walk_at "dp") (hF.mem (by simp)) fun H2 e2 => ?_
        rw [h2] at k
        exact k H2 (e1.trans e2)
      · rw [h2] at k
        have e3 := k H1 e1
        try rw [h2]
        exact e3
    · rw [not_ref (by omega)] at k0
      exact k0
  | _ => walk_at "wp"; exact k0
theorem pure_is_pair (vs : List V) (H : Hp) (Q : VK) (E : XK) (h : sp_is_pair G vs H Q E) : t_is_pair G { nx := fun _ H' => Q .non H', rt := Q } (L2.start N_is_pair vs) H := pure_is_ref vs H Q E h
theorem pure_is_room (vs : List V) (H : Hp) (Q : VK) (E : XK) (h : sp_is_room G vs H Q E) : t_is_room G { nx := fun _ H' => Q .non H', rt := Q } (L2.start N_is_room vs) H := by
  obtain ⟨v, d, rfl, hD, hF, k⟩ := h
  have k0 := k H (Ext.refl _)
  have hD0 := hD
  show tRet _ _ [some v] H
  cases hD with
  | @tup a xs ds q r =>
    have hl := LO.DpAll.len r
    walk_at "wp"
    refine ifD (fun h1 => ?_) (fun h1 => ?_)
    · obtain ⟨x, y, d, e, rfl, rfl, d1, d2⟩ := two_of r (by omega)
      walk_at "wp"
      refine p_spD d1 (hF.mem (by simp)) fun H1 e1 => ?_
      walk_at "wp"
      have hk : isRoomD (.tuple [d, e]) = (isNameD d && isNameD e) := rfl
      rw [hk] at k
      refine ifB (fun h2 => ?_) (fun h2 => ?_)
      · walk_at "wp"
        refine p_spD (by walk_at "dp") (hF.mem (by simp)) fun H2 e2 => ?_
        rw [h2] at k
        exact k H2 (e1.trans e2)
      · rw [h2] at k
        have e3 := k H1 e1
        try rw [h2]
        exact e3
    · rw [not_room (by omega)] at k0
      exact k0
  | _ => walk_at "wp"; exact k0
end
section
/-! LoValQ: the tests of bodies, letters, parcels. -/
variable {G : Gv}
theorem name_str {K : PySem.W.Frag} {H : Hp} {v : V} {d : PyData} (h : Dp K H v d) (e : isNameD d = true) : ∃ z, v = V.str z ∧ d = .str z ∧ nameL z.cps.toList = true := by
  cases h with
  | str z => exact ⟨z, rfl, rfl, e⟩
  | _ => cases e
theorem getD_at {ds : List PyData} {i : Nat} {d : PyData} (h : ds[i]? = some d) : ds.getD i .none = d := by
  rw [List.getD_eq_getElem?_getD, h]
  rfl
theorem range_mem {f : Nat → Bool} {n i : Nat} (h : (List.range n).all f = true) (hi : i < n) : f i = true := List.all_eq_true.mp h i (List.mem_range.mpr hi)
theorem pure_is_members (vs : List V) (H : Hp) (Q : VK) (E : XK) (h : sp_is_members G vs H Q E) : t_is_members G { nx := fun _ H' => Q .non H', rt := Q } (L2.start N_is_members vs) H := by
  obtain ⟨v, d, rfl, hD, hF, k⟩ := h
  have k0 := k H (Ext.refl _)
  have hD0 := hD
  show tSeq _ _ _ [some v, none, none] H
  cases hD with
  | @tup a xs ds q r =>
    have hl := LO.DpAll.len r
    have hk : isMembersD (.tuple ds) = (decide (ds.length ≤ 15) && (List.range ds.length).all (memAt ds)) := rfl
    rw [hk] at k0 k
    walk_at "wp"
    refine ifD (fun h1 => ?_) (fun h1 => ?_)
    · walk_at "wp"
      rw [decide_eq_false (by omega)] at k0
      exact k0
    · walk_at "wp"
      rw [decide_eq_true (by omega), Bool.true_and] at k
      refine l_enumT (xs := xs) (fun i σ' H' => Ext H H' ∧ (∃ v1 v2, σ' = [some (V.ref a), v1, v2]) ∧ (List.range i).all (memAt ds) = true) q ⟨Ext.refl _, ⟨_, _, rfl⟩, rfl⟩ (fun i σ' H' _ p => LO.SqT.ext q p.1) ?_ ?_
      · rintro i x σ' H' T hx ⟨e1, ⟨v1, v2, rfl⟩, hp⟩ hT
        obtain ⟨d, hd, dx⟩ := LO.DpAll.at r hx
        have hi : i < ds.length := (List.getElem?_eq_some_iff.mp hd).1
        have no : ∀ H2, Ext H H2 → memAt ds i = false → Q (V.bl false) H2 := fun H2 e h => by
          have e2 := k H2 e
          rw [range_no hi h] at e2
          exact e2
        have em : memAt ds i = (isNameD d && (decide (i = 0) || ltD (ds.getD (i - 1) .none) d)) := by
          unfold memAt
          rw [getD_at hd]
        rw [em] at no
        have e2 : Ext H (upd H' T (.tup [.int (i : Nat), x])) := e1.new hT
        walk_at "wp"
        refine p_spD (LO.Dp.up dx e2) (hF.at hd) fun H3 e3 => ?_
        walk_at "wp"
        refine ifB (fun hn => ?_) (fun h2 => ?_)
        · skip
          obtain ⟨z, rfl, rfl, _⟩ := name_str dx hn
          rw [hn, Bool.true_and] at no em
          walk_at "wp"
          refine ifD (fun h3 => ?_) (fun h3 => ?_)
          · have hi0 : 0 < i := by omega
            obtain ⟨d', hd'⟩ : ∃ d', ds[i - 1]? = some d' := ⟨_, List.getElem?_eq_getElem (by omega)⟩
            obtain ⟨x', hx'⟩ : ∃ x', xs[i - 1]? = some x' := ⟨_, List.getElem?_eq_getElem (by omega)⟩
            obtain ⟨d2, hd2, dx'⟩ := LO.DpAll.at r hx'
            rw [hd'] at hd2
            cases hd2
            have hn' : isNameD d' = true := by
              have := range_mem hp (show i - 1 < i by omega)
              unfold memAt at this
              rw [getD_at hd'] at this
              exact (Bool.and_eq_true_iff.mp this).1
            obtain ⟨w, rfl, rfl, _⟩ := name_str dx' hn'
            have ec : ((i : Nat) : Int) - 1 = ((i - 1 : Nat) : Int) := by omega
            walk_at "wp"
            rw [ec]
            refine p_ixT (LO.SqT.ext q (e2.trans e3)) (at_nat hx') ?_
            walk_at "wp"
            rw [decide_eq_false (show ¬ i = 0 by omega), Bool.false_or, getD_at hd'] at no em
            have el : ltD (.str w) (.str z) = decide (w.cps.toList < z.cps.toList) := rfl
            rw [el] at no em
            refine ifD (fun h4 => ?_) (fun h4 => ?_)
            · walk_at "wp"
              refine ⟨e2.trans e3, ⟨_, _, rfl⟩, ?_⟩
              rw [range_succ_all hp, em, decide_eq_true h4]
            · walk_at "wp"
              exact no H3 (e2.trans e3) (decide_eq_false h4)
          · walk_at "wp"
            refine ⟨e2.trans e3, ⟨_, _, rfl⟩, ?_⟩
            rw [range_succ_all hp, em, decide_eq_true (show i = 0 by omega)]
            rfl
        · walk_at "wp"
          exact no H3 (e2.trans e3) (by rw [h2]; rfl)
      · rintro σ' H' ⟨e1, ⟨v1, v2, rfl⟩, hp⟩
        walk_at "wp"
        have e2 := k H' e1
        rw [hl] at hp
        rw [hp] at e2
        exact e2
  | _ => walk_at "wp"; exact k0
theorem ref_pair {K : PySem.W.Frag} {H : Hp} {v : V} {d : PyData} (h : Dp K H v d) (e : isRefD d = true) : ∃ (p : Addr) (z : Str) (n : Int), v = V.ref p ∧ d = .tuple [.str z, .int n] ∧ SqT K H p [V.str z, V.int n] ∧ nameL z.cps.toList = true ∧ numI n = true := by
  cases h with
  | @tup a xs ds q r =>
    have hl : ds.length = 2 := Classical.byContradiction fun hn => by rw [not_ref hn] at e; cases e
    obtain ⟨x, y, d, f, rfl, rfl, d1, d2⟩ := two_of r (by rw [LO.DpAll.len r]; exact hl)
    have e2 : (isNameD d && isNumD f) = true := e
    obtain ⟨e3, e4⟩ := Bool.and_eq_true_iff.mp e2
    obtain ⟨z, rfl, rfl, e5⟩ := name_str d1 e3
    cases d2 with
    | int n => exact ⟨a, z, n, rfl, rfl, q, e5, e4⟩
    | _ => cases e4
  | _ => cases e
theorem pure_is_seen (vs : List V) (H : Hp) (Q : VK) (E : XK) (h : sp_is_seen G vs H Q E) : t_is_seen G { nx := fun _ H' => Q .non H', rt := Q } (L2.start N_is_seen vs) H := by
  obtain ⟨v, d, rfl, hD, hF, k⟩ := h
  have k0 := k H (Ext.refl _)
  have hD0 := hD
  show tSeq _ _ _ [some v, none, none] H
  cases hD with
  | @tup a xs ds q r =>
    have hl := LO.DpAll.len r
    have hk : isSeenD (.tuple ds) = (List.range ds.length).all (refAt ds) := rfl
    rw [hk] at k0 k
    walk_at "wp"
    refine l_enumT (xs := xs) (fun i σ' H' => Ext H H' ∧ (∃ v1 v2, σ' = [some (V.ref a), v1, v2]) ∧ (List.range i).all (refAt ds) = true) q ⟨Ext.refl _, ⟨_, _, rfl⟩, rfl⟩ (fun i σ' H' _ p => LO.SqT.ext q p.1) ?_ ?_
    · rintro i x σ' H' T hx ⟨e1, ⟨v1, v2, rfl⟩, hp⟩ hT
      obtain ⟨d, hd, dx⟩ := LO.DpAll.at r hx
      have hi : i < ds.length := (List.getElem?_eq_some_iff.mp hd).1
      have no : ∀ H2, Ext H H2 → refAt ds i = false → Q (V.bl false) H2 := fun H2 e h => by
        have e2 := k H2 e
        rw [range_no hi h] at e2
        exact e2
      have em : refAt ds i = (isRefD d && (decide (i = 0) || ltD (fstD (ds.getD (i - 1) .none)) (fstD d))) := by
        unfold refAt
        rw [getD_at hd]
      rw [em] at no
      have e2 : Ext H (upd H' T (.tup [.int (i : Nat), x])) := e1.new hT
      walk_at "wp"
      refine p_spD (LO.Dp.up dx e2) (hF.at hd) fun H3 e3 => ?_
      walk_at "wp"
      refine ifB (fun hn => ?_) (fun h2 => ?_)
      · skip
        obtain ⟨b, z, n, rfl, rfl, hb, _⟩ := ref_pair dx hn
        rw [hn, Bool.true_and] at no em
        walk_at "wp"
        refine ifD (fun h3 => ?_) (fun h3 => ?_)
        · have hi0 : 0 < i := by omega
          obtain ⟨d', hd'⟩ : ∃ d', ds[i - 1]? = some d' := ⟨_, List.getElem?_eq_getElem (by omega)⟩
          obtain ⟨x', hx'⟩ : ∃ x', xs[i - 1]? = some x' := ⟨_, List.getElem?_eq_getElem (by omega)⟩
          obtain ⟨d2, hd2, dx'⟩ := LO.DpAll.at r hx'
          rw [hd'] at hd2
          cases hd2
          have hn' : isRefD d' = true := by
            have := range_mem hp (show i - 1 < i by omega)
            unfold refAt at this
            rw [getD_at hd'] at this
            exact (Bool.and_eq_true_iff.mp this).1
          obtain ⟨c, w, m, rfl, rfl, hc, _⟩ := ref_pair dx' hn'
          have ec : ((i : Nat) : Int) - 1 = ((i - 1 : Nat) : Int) := by omega
          walk_at "wp"
          rw [ec]
          refine p_ixT (LO.SqT.ext q (e2.trans e3)) (at_nat hx') ?_
          walk_at "wp"
          rw [decide_eq_false (show ¬ i = 0 by omega), Bool.false_or, getD_at hd'] at no em
          have el : ltD (fstD (.tuple [.str w, .int m])) (fstD (.tuple [.str z, .int n])) = decide (w.cps.toList < z.cps.toList) := rfl
          rw [el] at no em
          refine ifD (fun h4 => ?_) (fun h4 => ?_)
          · walk_at "wp"
            refine ⟨e2.trans e3, ⟨_, _, rfl⟩, ?_⟩
            rw [range_succ_all hp, em, decide_eq_true h4]
          · walk_at "wp"
            exact no H3 (e2.trans e3) (decide_eq_false h4)
        · walk_at "wp"
          refine ⟨e2.trans e3, ⟨_, _, rfl⟩, ?_⟩
          rw [range_succ_all hp, em, decide_eq_true (show i = 0 by omega)]
          rfl
      · walk_at "wp"
        exact no H3 (e2.trans e3) (by rw [h2]; rfl)
    · rintro σ' H' ⟨e1, ⟨v1, v2, rfl⟩, hp⟩
      walk_at "wp"
      have e2 := k H' e1
      rw [hl] at hp
      rw [hp] at e2
      exact e2
  | _ => walk_at "wp"; exact k0
theorem pure_are_counts (vs : List V) (H : Hp) (Q : VK) (E : XK) (h : sp_are_counts G vs H Q E) : t_are_counts G { nx := fun _ H' => Q .non H', rt := Q } (L2.start N_are_counts vs) H := by
  obtain ⟨v, d, rfl, hD, hF, k⟩ := h
  have k0 := k H (Ext.refl _)
  have hD0 := hD
  show tSeq _ _ _ [some v, none, none] H
  cases hD with
  | @tup a xs ds q r =>
    have hl := LO.DpAll.len r
    have hk : isSeenD (.tuple ds) = (List.range ds.length).all (refAt ds) := rfl
    rw [hk] at k0 k
    walk_at "wp"
    refine l_enumT (xs := xs) (fun i σ' H' => Ext H H' ∧ (∃ v1 v2, σ' = [some (V.ref a), v1, v2]) ∧ (List.range i).all (refAt ds) = true) q ⟨Ext.refl _, ⟨_, _, rfl⟩, rfl⟩ (fun i σ' H' _ p => LO.SqT.ext q p.1) ?_ ?_
    · rintro i x σ' H' T hx ⟨e1, ⟨v1, v2, rfl⟩, hp⟩ hT
      obtain ⟨d, hd, dx⟩ := LO.DpAll.at r hx
      have hi : i < ds.length := (List.getElem?_eq_some_iff.mp hd).1
      have no : ∀ H2, Ext H H2 → refAt ds i = false → Q (V.bl false) H2 := fun H2 e h => by
        have e2 := k H2 e
        rw [range_no hi h] at e2
        exact e2
      have em : refAt ds i = (isRefD d && (decide (i = 0) || ltD (fstD (ds.getD (i - 1) .none)) (fstD d))) := by
        unfold refAt
        rw [getD_at hd]
      rw [em] at no
      have e2 : Ext H (upd H' T (.tup [.int (i : Nat), x])) := e1.new hT
      walk_at "wp"
      refine p_spD (LO.Dp.up dx e2) (hF.at hd) fun H3 e3 => ?_
      walk_at "wp"
      refine ifB (fun hn => ?_) (fun h2 => ?_)
      · skip
        obtain ⟨b, z, n, rfl, rfl, hb, _⟩ := ref_pair dx hn
        rw [hn, Bool.true_and] at no em
        walk_at "wp"
        refine ifD (fun h3 => ?_) (fun h3 => ?_)
        · have hi0 : 0 < i := by omega
          obtain ⟨d', hd'⟩ : ∃ d', ds[i - 1]? = some d' := ⟨_, List.getElem?_eq_getElem (by omega)⟩
          obtain ⟨x', hx'⟩ : ∃ x', xs[i - 1]? = some x' := ⟨_, List.getElem?_eq_getElem (by omega)⟩
          obtain ⟨d2, hd2, dx'⟩ := LO.DpAll.at r hx'
          rw [hd'] at hd2
          cases hd2
          have hn' : isRefD d' = true := by
            have := range_mem hp (show i - 1 < i by omega)
            unfold refAt at this
            rw [getD_at hd'] at this
            exact (Bool.and_eq_true_iff.mp this).1
          obtain ⟨c, w, m, rfl, rfl, hc, _⟩ := ref_pair dx' hn'
          have ec : ((i : Nat) : Int) - 1 = ((i - 1 : Nat) : Int) := by omega
          walk_at "wp"
          rw [ec]
          refine p_ixT (LO.SqT.ext q (e2.trans e3)) (at_nat hx') ?_
          walk_at "wp"
          rw [decide_eq_false (show ¬ i = 0 by omega), Bool.false_or, getD_at hd'] at no em
          have el : ltD (fstD (.tuple [.str w, .int m])) (fstD (.tuple [.str z, .int n])) = decide (w.cps.toList < z.cps.toList) := rfl
          rw [el] at no em
          refine ifD (fun h4 => ?_) (fun h4 => ?_)
          · walk_at "wp"
            refine ⟨e2.trans e3, ⟨_, _, rfl⟩, ?_⟩
            rw [range_succ_all hp, em, decide_eq_true h4]
          · walk_at "wp"
            exact no H3 (e2.trans e3) (decide_eq_false h4)
        · walk_at "wp"
          refine ⟨e2.trans e3, ⟨_, _, rfl⟩, ?_⟩
          rw [range_succ_all hp, em, decide_eq_true (show i = 0 by omega)]
          rfl
      · walk_at "wp"
        exact no H3 (e2.trans e3) (by rw [h2]; rfl)
    · rintro σ' H' ⟨e1, ⟨v1, v2, rfl⟩, hp⟩
      walk_at "wp"
      have e2 := k H' e1
      rw [hl] at hp
      rw [hp] at e2
      exact e2
  | _ => walk_at "wp"; exact k0

theorem body_str {K : PySem.W.Frag} {H : Hp} {v : V} {d : PyData} (h : Dp K H v d) (e : isBodyD d = true) : ∃ (p : Addr) (k : Str) (xs : List V) (rest : List PyData), v = V.ref p ∧ d = .tuple (.str k :: rest) ∧ SqT K H p (V.str k :: xs) ∧ DpAll K H xs rest ∧ getT partsL k = .int rest.length ∧ bodyK k rest = true := by
  cases h with
  | @tup a xs ds q r =>
    cases r with
    | nil => cases e
    | cons h1 r =>
      cases h1 with
      | str k =>
        have e2 : (decide (getT partsL k = .int (List.length _)) && bodyK k _) = true := e
        obtain ⟨e3, e4⟩ := Bool.and_eq_true_iff.mp e2
        exact ⟨a, k, _, _, rfl, rfl, q, r, of_decide_eq_true e3, e4⟩
      | _ => cases e
  | _ => cases e
theorem rest_at {K : PySem.W.Frag} {H : Hp} {xs : List V} {rest : List PyData} {v0 : V} {i : Nat} (r : DpAll K H xs rest) (h : i < rest.length) : ∃ x, atI (v0 :: xs) ((i + 1 : Nat) : Int) = some x ∧ Dp K H x (rest.getD i .none) ∧ rest.getD i .none ∈ rest := by
  have hl := LO.DpAll.len r
  obtain ⟨x, hx⟩ : ∃ x, xs[i]? = some x := ⟨_, List.getElem?_eq_getElem (by omega)⟩
  obtain ⟨d, hd, dx⟩ := LO.DpAll.at r hx
  rw [getD_at hd]
  exact ⟨x, at_nat (i := i + 1) (by simpa using hx), dx, List.mem_of_getElem? hd⟩
theorem last_at {K : PySem.W.Frag} {H : Hp} {xs : List V} {rest : List PyData} {v0 : V} (r : DpAll K H xs rest) (h : 0 < rest.length) : ∃ x, atI (v0 :: xs) (-1) = some x ∧ Dp K H x (rest.getLastD .none) ∧ rest.getLastD .none ∈ rest := by
  have hl := LO.DpAll.len r
  obtain ⟨x, hx⟩ : ∃ x, xs[rest.length - 1]? = some x := ⟨_, List.getElem?_eq_getElem (by omega)⟩
  obtain ⟨d, hd, dx⟩ := LO.DpAll.at r hx
  have e : rest.getLastD .none = d := by
    rw [List.getLastD_eq_getLast?, List.getLast?_eq_getElem?, hd]
    rfl
  rw [e]
  refine ⟨x, ?_, dx, List.mem_of_getElem? hd⟩
  unfold atI ixN
  rw [if_neg (by omega), if_pos (by simp; omega)]
  have e2 : (((v0 :: xs).length : Nat) : Int) + (-1) = ((rest.length : Nat) : Int) := by simp; omega
  simp only [Option.bind_some]
  have e3 : ((-1 : Int) + ((v0 :: xs).length : Nat)).toNat = (rest.length - 1) + 1 := by simp; omega
  first
    | (rw [e3]; simpa using hx)
    | (have e4 : ((((v0 :: xs).length : Nat) : Int) + -1).toNat = (rest.length - 1) + 1 := by simp; omega
       rw [e4]; simpa using hx)
theorem bodyK_mem (k : Str) (rest : List PyData) : bodyK k rest = (if k = "found" then isTitleD (rest.getD 0 .none) && isMembersD (rest.getD 1 .none)
  else if k ∈ (["reply", "edit", "recall", "mark"] : List Str) ∧ isRefD (rest.getD 0 .none) = false then false
  else if k ∈ (["say", "reply", "edit"] : List Str) then isTextD (rest.getLastD .none)
  else if k = "title" then isTitleD (rest.getD 0 .none)
  else if k ∈ (["mark", "add", "cut", "hand"] : List Str) then isNameD (rest.getLastD .none)
  else true) := by
  unfold bodyK
  simp only [List.mem_cons, List.not_mem_nil, or_false]
theorem parts_pos {k : Str} {n : Nat} (h : getT partsL k = .int n) (hk : k ≠ "seen") : 0 < n := by
  unfold getT at h
  cases e : partsL.find? (fun q => q.1 == k) with
  | none => rw [e] at h; cases h
  | some p =>
    rw [e] at h
    have hm := List.mem_of_find?_eq_some e
    have hp := List.find?_some e
    have hk2 : p.1 = k := by simpa using hp
    injection h with h
    have all : ∀ q ∈ partsL, q.1 = "seen" ∨ 0 < q.2 := by decide +kernel
    rcases all p hm with z | z
    · exact absurd (hk2.symm.trans z) hk
    · omega
theorem pure_is_body (vs : List V) (H : Hp) (Q : VK) (E : XK) (h : sp_is_body G vs H Q E) : t_is_body G { nx := fun _ H' => Q .non H', rt := Q } (L2.start N_is_body vs) H := by
  obtain ⟨v, d, rfl, hD, hF, k⟩ := h
  have k0 := k H (Ext.refl _)
  have hD0 := hD
  show tSeq _ _ _ [some v, none] H
  cases hD with
  | @tup a xs ds q r =>
    have hl := LO.DpAll.len r
    cases r with
    | nil =>
      walk_at "wp"
      refine ifD (fun h1 => ?_) (fun h1 => ?_)
      · walk_at "wp"
        exact k0
      · exact absurd rfl h1
    | @cons v0 xs d0 rest h1 r =>
    have hr := LO.DpAll.len r
    have h10 := h1
    cases h1 with
    | str kd =>
      have hk : isBodyD (.tuple (.str kd :: rest)) = (decide (getT partsL kd = .int rest.length) && bodyK kd rest) := rfl
      rw [hk] at k0 k
      walk_at "wp"
      refine ifD (fun h2 => ?_) (fun h2 => ?_)
      · simp at h2
        omega
      · walk_at "wp"
        refine ⟨kd, rfl, ?_⟩
        walk_at "wp"
        have hg : ∃ e, Dp G.K H (getT partsL kd) e ∧ Fine e ∧ (PyData.eqv e (.int rest.length) = decide (getT partsL kd = .int rest.length)) := by
          unfold getT
          cases partsL.find? (fun q => q.1 == kd) with
          | none => exact ⟨.none, .non, .none, by simp [PyData.eqv]⟩
          | some p =>
            refine ⟨.int p.2, .int _, .int _, ?_⟩
            by_cases he : p.2 = (rest.length : Int)
            · simp [PyData.eqv, he]
            · simp [PyData.eqv, he]
        obtain ⟨e, he, fe, ee⟩ := hg
        have el : ((V.str kd :: xs).length : Int) - 1 = (rest.length : Int) := by simp; omega
        rw [el]
        refine p_neD he (.int _) fe (.int _) ?_
        rw [ee]
        walk_at "wp"
        refine ifD (fun h3 => ?_) (fun h3 => ?_)
        · skip
          rw [decide_eq_true h3, Bool.true_and] at k
          rw [bodyK_mem] at k
          walk_at "wp"
          refine ifD (fun h4 => ?_) (fun h4 => ?_)
          · subst h4
            have e2 : getT partsL "found" = .int 2 := by decide +kernel
            rw [e2] at h3
            injection h3 with h3
            obtain ⟨x, y, d1, d2, rfl, rfl, r1, r2⟩ := two_of r (by omega)
            rw [if_pos rfl] at k
            walk_at "wp"
            refine p_spD r1 (hF.mem (by simp)) fun H1 e1 => ?_
            walk_at "wp"
            refine ifB (fun h2 => ?_) (fun h2 => ?_)
            · walk_at "wp"
              refine p_spD (by walk_at "dp") (hF.mem (by simp)) fun H2 e2 => ?_
              have k1 := k H2 (e1.trans e2)
              have e3 : (isTitleD ([d1, d2].getD 0 .none) && isMembersD ([d1, d2].getD 1 .none)) = (isTitleD d1 && isMembersD d2) := rfl
              rw [e3, h2] at k1
              exact k1
            · have k1 := k H1 e1
              have e3 : (isTitleD ([d1, d2].getD 0 .none) && isMembersD ([d1, d2].getD 1 .none)) = (isTitleD d1 && isMembersD d2) := rfl
              rw [e3, h2] at k1
              try rw [h2]
              exact k1
          · rw [if_neg h4] at k
            walk_at "wp"
            refine ⟨by simp; decide, fun p hp => ?_⟩
            walk_at "wp"
            refine p_inStrs ["reply", "edit", "recall", "mark"] (.inr (SqT.of upd_same)) ?_
            have x1 : Ext H (upd H p (.tup [.str "reply", .str "edit", .str "recall", .str "mark"])) := Ext.new1 hp
            walk_at "wp"
            have rest2 : ∀ H1, Ext H H1 → (∀ H', Ext H H' → Q (V.bl (if kd ∈ (["say", "reply", "edit"] : List Str) then isTextD (rest.getLastD .none) else if kd = "title" then isTitleD (rest.getD 0 .none) else if kd ∈ (["mark", "add", "cut", "hand"] : List Str) then isNameD (rest.getLastD .none) else true)) H') →
                tSeq (tIfS (tTest (tOp (rIn G.K false) (tVar 1) (tTup (tCons (tC (.str "say")) (tCons (tC (.str "reply")) (tCons (tC (.str "edit")) tNil)))))) (tRet (tCall (sp_is_text G) [] E0 (tCons (tOp (rIxT G.K) (tVar 0) (tUn rNeg (tC (.int 1)))) tNil))) tNext)
                  (tSeq (tIfS (tTest (tOp rEq (tVar 1) (tC (.str "title")))) (tRet (tCall (sp_is_title G) [] E0 (tCons (tOp (rIxT G.K) (tVar 0) (tC (.int 1))) tNil))) tNext)
                  (tSeq (tIfS (tTest (tOp (rIn G.K false) (tVar 1) (tTup (tCons (tC (.str "mark")) (tCons (tC (.str "add")) (tCons (tC (.str "cut")) (tCons (tC (.str "hand")) tNil))))))) (tRet (tCall (sp_is_name G) [] E0 (tCons (tOp (rIxT G.K) (tVar 0) (tUn rNeg (tC (.int 1)))) tNil))) tNext)
                  (tRet (tC (.bl true))))) { nx := fun _ H' => Q .non H', rt := Q } [some (V.ref a), some (V.str kd)] H1 := fun H1 x1 k => by
              walk_at "wp"
              refine ⟨by simp; decide, fun p hp => ?_⟩
              walk_at "wp"
              refine p_inStrs ["say", "reply", "edit"] (.inr (SqT.of upd_same)) ?_
              have x2 := x1.new (o := .tup [.str "say", .str "reply", .str "edit"]) hp
              walk_at "wp"
              refine ifD (fun h5 => ?_) (fun h5 => ?_)
              · rw [if_pos h5] at k
                have hp0 : 0 < rest.length := parts_pos h3 (fun e => by subst e; exact absurd h5 (by decide))
                obtain ⟨x, hx, dx, mx⟩ := last_at (v0 := .str kd) r hp0
                walk_at "wp"
                refine ⟨1, rfl, ?_⟩
                refine p_ixT (LO.SqT.ext q x2) hx ?_
                walk_at "wp"
                exact p_spD (LO.Dp.up dx x2) (hF.mem (List.mem_cons_of_mem _ mx)) fun H3 e3 => k H3 (x2.trans e3)
              · rw [if_neg h5] at k
                walk_at "wp"
                refine ifD (fun h6 => ?_) (fun h6 => ?_)
                · rw [if_pos h6] at k
                  have hp0 : 0 < rest.length := parts_pos h3 (fun e => by rw [e] at h6; exact absurd h6 (by decide +kernel))
                  obtain ⟨x, hx, dx, mx⟩ := rest_at (v0 := .str kd) (i := 0) r hp0
                  walk_at "wp"
                  refine p_ixT (LO.SqT.ext q x2) hx ?_
                  walk_at "wp"
                  exact p_spD (LO.Dp.up dx x2) (hF.mem (List.mem_cons_of_mem _ mx)) fun H3 e3 => k H3 (x2.trans e3)
                · rw [if_neg h6] at k
                  walk_at "wp"
                  refine ⟨by simp; decide, fun p2 hp2 => ?_⟩
                  walk_at "wp"
                  refine p_inStrs ["mark", "add", "cut", "hand"] (.inr (SqT.of upd_same)) ?_
                  have x3 := x2.new (o := .tup [.str "mark", .str "add", .str "cut", .str "hand"]) hp2
                  walk_at "wp"
                  refine ifD (fun h7 => ?_) (fun h7 => ?_)
                  · rw [if_pos h7] at k
                    have hp0 : 0 < rest.length := parts_pos h3 (fun e => by subst e; exact absurd h7 (by decide))
                    obtain ⟨x, hx, dx, mx⟩ := last_at (v0 := .str kd) r hp0
                    walk_at "wp"
                    refine ⟨1, rfl, ?_⟩
                    refine p_ixT (LO.SqT.ext q x3) hx ?_
                    walk_at "wp"
                    exact p_spD (LO.Dp.up dx x3) (hF.mem (List.mem_cons_of_mem _ mx)) fun H3 e3 => k H3 (x3.trans e3)
                  · rw [if_neg h7] at k
                    walk_at "wp"
                    exact k _ x3
            refine ifD (fun h5 => ?_) (fun h5 => ?_)
            · have hp0 : 0 < rest.length := parts_pos h3 (fun e => by subst e; exact absurd h5 (by decide))
              obtain ⟨x, hx, dx, mx⟩ := rest_at (v0 := .str kd) (i := 0) r hp0
              walk_at "wp"
              refine p_ixT (LO.SqT.ext q x1) hx ?_
              walk_at "wp"
              refine p_spD (LO.Dp.up dx x1) (hF.mem (List.mem_cons_of_mem _ mx)) fun H3 e3 => ?_
              walk_at "wp"
              refine ifB (fun h6 => ?_) (fun h6 => ?_)
              · rw [if_neg (fun z => by rw [h6] at z; exact absurd z.2 (by decide))] at k
                exact rest2 H3 (x1.trans e3) k
              · rw [if_pos ⟨h5, h6⟩] at k
                walk_at "wp"
                exact k H3 (x1.trans e3)
            · rw [if_neg (fun z => h5 z.1)] at k
              exact rest2 _ x1 k
        · walk_at "wp"
          rw [decide_eq_false h3] at k0
          exact k0
    | _ =>
      walk_at "wp"
      refine ifD (fun h2 => ?_) (fun h2 => ?_)
      · walk_at "wp"
        exact k0
      · walk_at "wp"
        exact k0
  | _ => walk_at "wp"; exact k0
end
section
/-! LoValR: the tests of letters and parcels. -/
variable {G : Gv}
theorem five_of {K : PySem.W.Frag} {H : Hp} {xs : List V} {ds : List PyData} (h : DpAll K H xs ds) (hl : xs.length = 5) : ∃ x1 x2 x3 x4 x5 d1 d2 d3 d4 d5, xs = [x1, x2, x3, x4, x5] ∧ ds = [d1, d2, d3, d4, d5] ∧ Dp K H x1 d1 ∧ Dp K H x2 d2 ∧ Dp K H x3 d3 ∧ Dp K H x4 d4 ∧ Dp K H x5 d5 := by
  match xs, ds, h, hl with
  | [x1, x2, x3, x4, x5], _, .cons h1 (.cons h2 (.cons h3 (.cons h4 (.cons h5 .nil)))), _ => exact ⟨_, _, _, _, _, _, _, _, _, _, rfl, rfl, h1, h2, h3, h4, h5⟩
theorem not_five {ds : List PyData} (hl : ds.length ≠ 5) : isLetterD (.tuple ds) = false := by
  unfold isLetterD
  split
  · rename_i e
    injection e with e
    rw [e] at hl
    exact absurd rfl hl
  · rfl
section
variable {d1 d2 d3 d4 d5 : PyData}
theorem letter_no1 (h : isNameD d1 = false) : isLetterD (.tuple [d1, d2, d3, d4, d5]) = false := by
  cases d1 <;> try rfl
  cases d2 <;> try rfl
  cases d3 <;> try rfl
  rename_i a n st
  have h2 : nameL a.cps.toList = false := h
  show (nameL _ && _) = false
  rw [h2]
  rfl
theorem letter_no2 (h : isNumD d2 = false) : isLetterD (.tuple [d1, d2, d3, d4, d5]) = false := by
  cases d1 <;> try rfl
  cases d2 <;> try rfl
  cases d3 <;> try rfl
  rename_i a n st
  have h2 : numI n = false := h
  show (nameL _ && (numI _ && _)) = false
  rw [h2]
  simp
theorem letter_no3 (h : isNumD d3 = false) : isLetterD (.tuple [d1, d2, d3, d4, d5]) = false := by
  cases d1 <;> try rfl
  cases d2 <;> try rfl
  cases d3 <;> try rfl
  rename_i a n st
  have h2 : numI st = false := h
  show (nameL _ && (numI _ && (numI _ && _))) = false
  rw [h2]
  simp
end
theorem num_int {K : PySem.W.Frag} {H : Hp} {v : V} {d : PyData} (h : Dp K H v d) (e : isNumD d = true) : ∃ n, v = V.int n ∧ d = .int n ∧ numI n = true := by
  cases h with
  | int n => exact ⟨n, rfl, rfl, e⟩
  | _ => cases e
theorem members_strs {K : PySem.W.Frag} {H : Hp} {v : V} {d : PyData} (h : Dp K H v d) (e : isMembersD d = true) : ∃ (p : Addr) (ws : List Str), v = V.ref p ∧ d = .tuple (ws.map .str) ∧ SqT K H p (ws.map V.str) ∧ ws.length ≤ 15 := by
  cases h with
  | @tup a xs ds q r =>
    have e2 : (decide (ds.length ≤ 15) && (List.range ds.length).all (memAt ds)) = true := e
    obtain ⟨e3, e4⟩ := Bool.and_eq_true_iff.mp e2
    have all : ∀ (i : Nat) (d : PyData), ds[i]? = some d → isNameD d = true := fun i d hd => by
      have := range_mem e4 (List.getElem?_eq_some_iff.mp hd).1
      unfold memAt at this
      rw [getD_at hd] at this
      exact (Bool.and_eq_true_iff.mp this).1
    have go : ∀ (xs : List V) (ds : List PyData), DpAll K H xs ds → (∀ d ∈ ds, isNameD d = true) → ∃ ws : List Str, xs = ws.map V.str ∧ ds = ws.map .str := by
      intro xs ds r
      induction xs generalizing ds with
      | nil => cases r; exact fun _ => ⟨[], rfl, rfl⟩
      | cons x xs ih =>
        cases r with
        | cons h1 r =>
          intro al
          obtain ⟨ws, rfl, rfl⟩ := ih _ r fun d hd => al d (List.mem_cons_of_mem _ hd)
          obtain ⟨z, rfl, rfl, _⟩ := name_str h1 (al _ (List.mem_cons_self ..))
          exact ⟨z :: ws, rfl, rfl⟩
    obtain ⟨ws, rfl, rfl⟩ := go xs ds r fun d hd => by
      obtain ⟨i, hi⟩ := List.getElem?_of_mem hd
      exact all i d hi
    exact ⟨a, ws, rfl, rfl, q, by simpa using of_decide_eq_true e3⟩
  | _ => cases e
theorem memTD_strs (a : Str) (ws : List Str) : memTD (.str a) (.tuple (ws.map .str)) = decide (a ∈ ws) := by
  show (ws.map PyData.str).any (fun z => PyData.eqv z (.str a)) = _
  induction ws with
  | nil => rfl
  | cons w ws ih =>
    rw [List.map_cons, List.any_cons, ih]
    show ((w == a) || _) = _
    by_cases h : w = a
    · simp [h]
    · have h2 : a ≠ w := fun e => h e.symm
      simp [h, h2]
theorem pure_is_letter (vs : List V) (H : Hp) (Q : VK) (E : XK) (h : sp_is_letter G vs H Q E) : t_is_letter G { nx := fun _ H' => Q .non H', rt := Q } (L2.start N_is_letter vs) H := by
  obtain ⟨v, d, rfl, hD, hF, k⟩ := h
  have k0 := k H (Ext.refl _)
  have hD0 := hD
  show tSeq _ _ _ [some v, none, none, none, none, none] H
  cases hD with
  | @tup a xs ds q r =>
    have hl := LO.DpAll.len r
    walk_at "wp"
    refine ifD (fun h1 => ?_) (fun h1 => ?_)
    · walk_at "wp"
      rw [not_five (by omega)] at k0
      exact k0
    · obtain ⟨x1, x2, x3, x4, x5, d1, d2, d3, d4, d5, rfl, rfl, r1, r2, r3, r4, r5⟩ := five_of r (by omega)
      have no : ∀ H1, Ext H H1 → isLetterD (.tuple [d1, d2, d3, d4, d5]) = false → Q (.bl false) H1 := fun H1 e h => by
        have := k H1 e
        rw [h] at this
        exact this
      walk_at "wp"
      refine p_spD r1 (hF.mem (by simp)) fun H1 e1 => ?_
      walk_at "wp"
      refine ifB (fun h2 => ?_) (fun h2 => ?_)
      · walk_at "wp"
        refine p_spD (by walk_at "dp") (hF.mem (by simp)) fun H2 e2 => ?_
        have e2 := e1.trans e2
        clear e1
        walk_at "wp"
        refine ifB (fun h3 => ?_) (fun h3 => ?_)
        · walk_at "wp"
          refine p_spD (LO.Dp.up r3 e2) (hF.mem (by simp)) fun H3 e3 => ?_
          have e3 := e2.trans e3
          clear e2
          walk_at "wp"
          refine ifB (fun h4 => ?_) (fun h4 => ?_)
          · obtain ⟨au, rfl, rfl, hn1⟩ := name_str r1 h2
            obtain ⟨n, rfl, rfl, hn2⟩ := num_int r2 h3
            obtain ⟨st, rfl, rfl, hn3⟩ := num_int r3 h4
            have el : isLetterD (.tuple [.str au, .int n, .int st, d4, d5]) = (isSeenD d4 && (isBodyD d5 && (memTD (.tuple [.str au, .int n]) d4 && (!decide (st < n) &&
                (if PyData.eqv (fstD d5) (.str "found") then decide (st = 1) && (PyData.eqv d4 (.tuple [.tuple [.str au, .int 1]]) && !memTD (.str au) (sndD d5)) else decide (1 < st)))))) := by
              show (nameL au.cps.toList && (numI n && (numI st && _))) = _
              rw [hn1, hn2, hn3, Bool.true_and, Bool.true_and, Bool.true_and]
            rw [el] at no k
            have f1 : Fine (.str au) := hF.mem (by simp)
            walk_at "wp"
            refine p_spD (LO.Dp.up r4 e3) (hF.mem (by simp)) fun H4 e4 => ?_
            have e4 := e3.trans e4
            clear e3
            walk_at "wp"
            refine ifB (fun h5 => ?_) (fun h5 => ?_)
            · rw [h5, Bool.true_and] at no k
              walk_at "wp"
              refine p_spD (LO.Dp.up r5 e4) (hF.mem (by simp)) fun H5 e5 => ?_
              have e5 := e4.trans e5
              clear e4
              walk_at "wp"
              refine ifB (fun h6 => ?_) (fun h6 => ?_)
              · rw [h6, Bool.true_and] at no k
                obtain ⟨b, kd, ys, rest, rfl, rfl, hb, rb, hg, hbk⟩ := body_str r5 h6
                have hs : ∃ ss, d4 = .tuple ss := by
                  cases d4 <;> first | exact ⟨_, rfl⟩ | cases h5
                obtain ⟨ss, rfl⟩ := hs
                walk_at "wp"
                refine ⟨by simp; decide, fun p hp => ?_⟩
                have e6 := e5.new (o := .tup [.str au, .int n]) hp
                have fp : FineN 1 (.tuple [.str au, .int n]) := .tup (by simp) fun x hx => by
                  simp at hx
                  rcases hx with rfl | rfl
                  · exact ⟨f1.ok, Nat.zero_le _⟩
                  · exact .int _
                walk_at "wp"
                refine p_notInTD (d := .tuple [.str au, .int n]) (.tup (SqT.of upd_same) (.cons (.str _) (.cons (.int _) .nil))) (LO.Dp.up r4 e6) fp.fine (hF.mem (by simp)) ?_
                cases hm : memTD (.tuple [.str au, .int n]) (.tuple ss) with
                | false =>
                  rw [hm] at no
                  walk_at "wp"
                  exact no _ e6 rfl
                | true =>
                  rw [hm, Bool.true_and] at no k
                  walk_at "wp"
                  refine ifD (fun h7 => ?_) (fun h7 => ?_)
                  · walk_at "wp"
                    exact no _ e6 (by rw [decide_eq_true h7]; rfl)
                  · rw [decide_eq_false h7] at no k
                    simp only [Bool.not_false, Bool.true_and] at no k
                    have ef : PyData.eqv (fstD (.tuple (.str kd :: rest))) (.str "found") = decide (kd = "found") := by
                      show (kd == "found") = _
                      by_cases h : kd = "found" <;> simp [h]
                    rw [ef] at no k
                    walk_at "wp"
                    refine ifD (fun h8 => ?_) (fun h8 => ?_)
                    · subst h8
                      rw [if_pos (decide_eq_true rfl)] at no k
                      walk_at "wp"
                      refine ifD (fun h9 => ?_) (fun h9 => ?_)
                      · rw [decide_eq_true h9, Bool.true_and] at no k
                        have e2 : getT partsL "found" = .int 2 := by decide +kernel
                        rw [e2] at hg
                        injection hg with hg
                        have hlr := LO.DpAll.len rb
                        obtain ⟨y1, y2, b1, b2, rfl, rfl, rb1, rb2⟩ := two_of rb (by omega)
                        have hbk2 : (isTitleD b1 && isMembersD b2) = true := by
                          rw [bodyK_mem, if_pos rfl] at hbk
                          exact hbk
                        obtain ⟨c, ws, rfl, rfl, hc, _⟩ := members_strs rb2 (Bool.and_eq_true_iff.mp hbk2).2
                        walk_at "wp"
                        refine ⟨by simp; decide, fun p2 hp2 => ?_⟩
                        walk_at "wp"
                        refine ⟨by simp; decide, fun p3 hp3 => ?_⟩
                        have e7 := (e6.new (o := .tup [.str au, .int 1]) hp2).new (o := .tup [.ref p2]) hp3
                        have x7 : (upd (upd (upd H5 p (.tup [.str au, .int n])) p2 (.tup [.str au, .int 1])) p3 (.tup [.ref p2])) p2 = some (.tup [.str au, .int 1]) := by
                          rw [upd_ne (ne_of_none upd_same hp3)]
                          exact upd_same
                        have f7 : FineN 2 (.tuple [.tuple [.str au, .int 1]]) := .tup (by simp) fun x hx => by
                          simp at hx
                          subst hx
                          refine .tup (by simp) fun x hx => ?_
                          simp at hx
                          rcases hx with rfl | rfl
                          · exact ⟨f1.ok, Nat.zero_le _⟩
                          · exact .int _
                        walk_at "wp"
                        refine p_eqD (e := .tuple [.tuple [.str au, .int 1]]) (LO.Dp.up r4 e7) (.tup (SqT.of upd_same) (.cons (.tup (SqT.of x7) (.cons (.str _) (.cons (.int _) .nil))) .nil)) (hF.mem (by simp)) f7.fine ?_
                        walk_at "wp"
                        refine ifB (fun h10 => ?_) (fun h10 => ?_)
                        · rw [h10, Bool.true_and] at no k
                          walk_at "wp"
                          refine p_notInStrs ws (.inr (LO.SqT.ext hc e7)) ?_
                          have k7 := k _ e7
                          have es : sndD (.tuple [.str "found", b1, .tuple (ws.map .str)]) = .tuple (ws.map .str) := rfl
                          rw [es, memTD_strs] at k7
                          have e8 : (!decide (au ∈ ws)) = decide (au ∉ ws) := by by_cases h : au ∈ ws <;> simp [h]
                          rw [e8] at k7
                          exact k7
                        · have k7 := no _ e7 (by rw [h10]; rfl)
                          try rw [h10]
                          exact k7
                      · have k7 := no _ e6 (by rw [decide_eq_false h9]; rfl)
                        exact k7
                    · rw [if_neg (by rw [decide_eq_false h8]; simp)] at no k
                      walk_at "wp"
                      exact k _ e6
              · walk_at "wp"
                exact no _ e5 (by rw [h6]; rfl)
            · walk_at "wp"
              exact no _ e4 (by rw [h5]; rfl)
          · walk_at "wp"
            exact no _ e3 (letter_no3 h4)
        · walk_at "wp"
          exact no _ e2 (letter_no2 h3)
      · walk_at "wp"
        exact no _ e1 (letter_no1 h2)
  | _ => walk_at "wp"; exact k0
theorem Ext.put {H H' : Hp} {D : Addr} {o : HO} (x : Ext H H') (hD : H D = none) : Ext H (upd H' D o) := fun b u h => by
  rw [upd_ne (ne_of_none h hD)]
  exact x b u h
theorem map_take_succ {α β : Type} {f : α → β} {l : List α} {i : Nat} {x : α} (h : l[i]? = some x) : (l.take (i + 1)).map f = (l.take i).map f ++ [f x] := by
  rw [List.take_add_one, h, List.map_append]
  rfl
theorem pure_are_values (vs : List V) (H : Hp) (Q : VK) (E : XK) (h : sp_are_values G vs H Q E) : t_are_values G { nx := fun _ H' => Q .non H', rt := Q } (L2.start N_are_values vs) H := by
  obtain ⟨v, d, rfl, hD, hF, k⟩ := h
  have k0 := k H (Ext.refl _)
  have hD0 := hD
  show tRet _ _ [some v, none] H
  cases hD with
  | @tup a xs ds q r =>
    have hl := LO.DpAll.len r
    have hk : isValuesD (.tuple ds) = (decide (0 < ds.length) && ds.all isLetterD) := rfl
    rw [hk] at k k0
    walk_at "wp"
    refine ifD (fun h1 => ?_) (fun h1 => ?_)
    · rw [decide_eq_true (by omega), Bool.true_and] at k
      walk_at "wp"
      refine ⟨a, rfl, ⟨xs, q⟩, fun D hD => lc_tup (xs := xs) (fun i H' => Ext H H' ∧ H' D = some (.lst (((ds.take i).map isLetterD).map V.bl))) ⟨(Ext.refl _).put hD, upd_same⟩ (fun i H' _ p => LO.SqT.ext q p.1) ?_ ?_⟩
      · rintro i x H' hx ⟨e1, hd⟩
        obtain ⟨d, hdi, dx⟩ := LO.DpAll.at r hx
        have hi : i < ds.length := (List.getElem?_eq_some_iff.mp hdi).1
        walk_at "wp"
        refine ⟨rfl, ?_⟩
        walk_at "wp"
        refine p_spD (LO.Dp.up dx e1) (hF.at hdi) fun H2 e2 => ⟨_, e2 _ _ hd, ?_, ?_, ?_⟩
        · rw [List.length_map, List.length_map, List.length_take, sizeLine_eq]
          have := hF.tupLen
          omega
        · exact (e1.trans e2).put hD
        · rw [upd_same, map_take_succ hdi, List.map_append]
          rfl
      · rintro H' ⟨e1, hd⟩
        rw [hl, List.take_length] at hd
        walk_at "wp"
        refine ⟨D, ds.map isLetterD, rfl, SqL.of hd, ?_⟩
        have k1 := k H' e1
        have e : (ds.map isLetterD).all id = ds.all isLetterD := by
          rw [List.all_map]
          rfl
        rw [e]
        exact k1
    · rw [decide_eq_false (by omega)] at k0
      exact k0
  | _ => walk_at "wp"; exact k0
theorem three_of {K : PySem.W.Frag} {H : Hp} {xs : List V} {ds : List PyData} (h : DpAll K H xs ds) (hl : xs.length = 3) : ∃ x1 x2 x3 d1 d2 d3, xs = [x1, x2, x3] ∧ ds = [d1, d2, d3] ∧ Dp K H x1 d1 ∧ Dp K H x2 d2 ∧ Dp K H x3 d3 := by
  match xs, ds, h, hl with
  | [x1, x2, x3], _, .cons h1 (.cons h2 (.cons h3 .nil)), _ => exact ⟨_, _, _, _, _, _, rfl, rfl, h1, h2, h3⟩
theorem not_three {ds : List PyData} (hl : ds.length ≠ 3) : isParcelD (.tuple ds) = false := by
  unfold isParcelD
  split
  · rename_i e
    injection e with e
    rw [e] at hl
    exact absurd rfl hl
  · rfl
theorem pure_is_parcel (vs : List V) (H : Hp) (Q : VK) (E : XK) (h : sp_is_parcel G vs H Q E) : t_is_parcel G { nx := fun _ H' => Q .non H', rt := Q } (L2.start N_is_parcel vs) H := by
  obtain ⟨v, d, rfl, hD, hF, k⟩ := h
  have k0 := k H (Ext.refl _)
  have hD0 := hD
  show tSeq _ _ _ [some v, none, none, none] H
  cases hD with
  | @tup a xs ds q r =>
    have hl := LO.DpAll.len r
    walk_at "wp"
    refine ifD (fun h1 => ?_) (fun h1 => ?_)
    · walk_at "wp"
      rw [not_three (by omega)] at k0
      exact k0
    · obtain ⟨x1, x2, x3, d1, d2, d3, rfl, rfl, r1, r2, r3⟩ := three_of r (by omega)
      have r10 := r1
      walk_at "wp"
      cases r1 with
      | str kd =>
        have ek : isParcelD (.tuple [.str kd, d2, d3]) = (isRoomD d2 && (if kd = "have" then isSeenD d3 else decide (kd = "letters") && isValuesD d3)) := rfl
        rw [ek] at k k0
        walk_at "wp"
        refine p_spD r2 (hF.mem (by simp)) fun H1 e1 => ?_
        walk_at "wp"
        refine ifB (fun h2 => ?_) (fun h2 => ?_)
        · rw [h2, Bool.true_and] at k
          walk_at "wp"
          refine ifD (fun h3 => ?_) (fun h3 => ?_)
          · rw [if_pos h3] at k
            walk_at "wp"
            exact p_spD (LO.Dp.up r3 e1) (hF.mem (by simp)) fun H2 e2 => k H2 (e1.trans e2)
          · rw [if_neg h3] at k
            walk_at "wp"
            refine ifD (fun h4 => ?_) (fun h4 => ?_)
            · rw [decide_eq_true h4, Bool.true_and] at k
              walk_at "wp"
              exact p_spD (LO.Dp.up r3 e1) (hF.mem (by simp)) fun H2 e2 => k H2 (e1.trans e2)
            · have k1 := k H1 e1
              rw [decide_eq_false h4] at k1
              exact k1
        · walk_at "wp"
          have k1 := k H1 e1
          rw [h2] at k1
          exact k1
      | _ => walk_at "wp"; exact k0
  | _ => walk_at "wp"; exact k0
end
section
/-! LoFx: what stays but for some objects; tuples stay always. -/
theorem gD_at {ds : List PyData} {i : Nat} {d : PyData} (h : ds[i]? = some d) : ds.getD i .none = d := by
  rw [List.getD_eq_getElem?_getD, h]
  rfl
/-- len(d) -/
def rLenD : List V → Hp → VK → Prop := fun xs H Q => ∃ a kvs, xs = [V.ref a] ∧ H a = some (.dK kvs) ∧ Q (.int kvs.length) H
/-- all but S stays, and tuples and locked things too -/
structure Fx (S : List Addr) (H H' : Hp) : Prop where
  but : ∀ b o, H b = some o → b ∉ S → H' b = some o
  tup : ∀ b xs, H b = some (.tup xs) → H' b = some (.tup xs)
  frz : ∀ b o u, H b = some (.frz o u) → H' b = some (.frz o u)
theorem Fx.refl (S : List Addr) (H : Hp) : Fx S H H := ⟨fun _ _ h _ => h, fun _ _ h => h, fun _ _ _ h => h⟩
theorem Fx.trans {S : List Addr} {H H1 H2 : Hp} (x : Fx S H H1) (y : Fx S H1 H2) : Fx S H H2 := ⟨fun b o h n => y.but b o (x.but b o h n) n, fun b xs h => y.tup b xs (x.tup b xs h), fun b o u h => y.frz b o u (x.frz b o u h)⟩
theorem Fx.sub {S T : List Addr} {H H' : Hp} (x : Fx S H H') (h : ∀ b ∈ S, b ∈ T) : Fx T H H' := ⟨fun b o e n => x.but b o e fun m => n (h b m), x.tup, x.frz⟩
theorem Fx.of {S : List Addr} {H H' : Hp} (x : Ext H H') : Fx S H H' := ⟨fun b o h _ => x b o h, fun b xs h => x b _ h, fun b o u h => x b _ h⟩
theorem Fx.ext {S : List Addr} {H H1 H2 : Hp} (x : Fx S H H1) (y : Ext H1 H2) : Fx S H H2 := x.trans (Fx.of y)
theorem Fx.new {S : List Addr} {H H' : Hp} {p : Addr} {o : HO} (x : Fx S H H') (hp : H' p = none) : Fx S H (upd H' p o) := x.ext (Ext.new1 hp)
theorem Fx.gone {S : List Addr} {H H' : Hp} {p : Addr} (x : Fx S H H') (h : H' p = none) (n : p ∉ S) : H p = none := by
  cases e : H p with
  | none => rfl
  | some o => rw [x.but p o e n] at h; cases h
/-- a thing that may change -/
def Chg : Option HO → Prop
  | some (.tup _) => False
  | some (.frz _ _) => False
  | _ => True
theorem Fx.put {S : List Addr} {H H' : Hp} {p : Addr} {o : HO} (x : Fx S H H') (hs : p ∈ S) (hc : Chg (H' p)) : Fx S H (upd H' p o) := by
  refine x.trans ⟨fun b u h n => ?_, fun b xs h => ?_, fun b u v h => ?_⟩
  · rw [upd_ne (fun e => n (by rw [e]; exact hs))]
    exact h
  · rw [upd_ne (fun e => by rw [e] at h; rw [h] at hc; exact hc)]
    exact h
  · rw [upd_ne (fun e => by rw [e] at h; rw [h] at hc; exact hc)]
    exact h
/-- .. also where it was not there at first -/
theorem Fx.putNew {S : List Addr} {H H' : Hp} {p : Addr} {o : HO} (x : Fx S H H') (h0 : H p = none) : Fx S H (upd H' p o) :=
  ⟨fun b u h n => by rw [upd_ne (ne_of_none h h0)]; exact x.but b u h n, fun b xs h => by rw [upd_ne (ne_of_none h h0)]; exact x.tup b xs h, fun b u v h => by rw [upd_ne (ne_of_none h h0)]; exact x.frz b u v h⟩
theorem Fx.at {S : List Addr} {H H' : Hp} {b : Addr} {o : HO} (x : Fx S H H') (h : H b = some o) (n : b ∉ S) : H' b = some o := x.but b o h n
theorem Fx.sqT {S : List Addr} {K : PySem.W.Frag} {H H' : Hp} {a : Addr} {xs : List V} (x : Fx S H H') (h : SqT K H a xs) : SqT K H' a xs := by
  rcases h with (h | ⟨u, h⟩) | h
  · exact .inl (.inl (x.tup _ _ h))
  · exact .inl (.inr ⟨u, x.frz _ _ _ h⟩)
  · exact .inr h
/-- a list that is locked or written stays -/
theorem Fx.sqL {S : List Addr} {K : PySem.W.Frag} {H H' : Hp} {a : Addr} {xs : List V} (x : Fx S H H') (h : SqL K H a xs) (n : a ∉ S) : SqL K H' a xs := by
  rcases h with (h | ⟨u, h⟩) | h
  · exact .inl (.inl (x.but _ _ h n))
  · exact .inl (.inr ⟨u, x.frz _ _ _ h⟩)
  · exact .inr h
theorem Fx.less {S : List Addr} {p : Addr} {H H1 H2 : Hp} (x : Fx S H H1) (y : Fx (p :: S) H1 H2) (hp : H p = none) : Fx S H H2 :=
  ⟨fun b o h n => y.but b o (x.but b o h n) (fun m => (List.mem_cons.mp m).elim (fun e => by rw [e, hp] at h; cases h) n), fun b xs h => y.tup b xs (x.tup b xs h), fun b o u h => y.frz b o u (x.frz b o u h)⟩
mutual
/-- no lists in it -/
def noL : PyData → Bool
  | .list _ => false
  | .dict _ => false
  | .tuple xs => noLs xs
  | _ => true
def noLs : List PyData → Bool
  | [] => true
  | x :: xs => noL x && noLs xs
end
mutual
theorem Dp.fx {S : List Addr} {K : PySem.W.Frag} {H H' : Hp} (x : Fx S H H') : ∀ (d : PyData) (v : V), noL d = true → Dp K H v d → Dp K H' v d
  | .none, _, _, h => by cases h; exact .non
  | .bool b, _, _, h => by cases h; exact .bl b
  | .int i, _, _, h => by cases h; exact .int i
  | .str z, _, _, h => by cases h; exact .str z
  | .list ds, _, e, _ => nomatch e
  | .tuple ds, _, e, h => by cases h with | tup q r => exact .tup (x.sqT q) (DpAll.fx x ds _ e r)
  | .dict _, _, e, _ => nomatch e
theorem DpAll.fx {S : List Addr} {K : PySem.W.Frag} {H H' : Hp} (x : Fx S H H') : ∀ (ds : List PyData) (vs : List V), noLs ds = true → DpAll K H vs ds → DpAll K H' vs ds
  | [], _, _, h => by cases h; exact .nil
  | d :: ds, _, e, h => by
    obtain ⟨e1, e2⟩ := Bool.and_eq_true_iff.mp (show (noL d && noLs ds) = true from e)
    cases h with | cons q r => exact .cons (Dp.fx x d _ e1 q) (DpAll.fx x ds _ e2 r)
end
theorem noLs_of : ∀ {xs : List PyData}, (∀ x ∈ xs, noL x = true) → noLs xs = true
  | [], _ => rfl
  | y :: ys, h => Bool.and_eq_true_iff.mpr ⟨h y (List.mem_cons_self ..), noLs_of fun x hx => h x (List.mem_cons_of_mem _ hx)⟩
/-- a stream of draws stands at a -/
def Strm (H : Hp) (a : Addr) : Prop := ∃ d s : Int, H a = some (HO.lst [V.int d, V.int s])
theorem Strm.fx {S : List Addr} {H H' : Hp} {a : Addr} (h : Strm H a) (x : Fx S H H') (n : a ∉ S) : Strm H' a := let ⟨d, s, e⟩ := h; ⟨d, s, x.at e n⟩
theorem Strm.ext {H H' : Hp} {a : Addr} (h : Strm H a) (x : Ext H H') : Strm H' a := let ⟨d, s, e⟩ := h; ⟨d, s, x _ _ e⟩
theorem Strm.chg {H : Hp} {a : Addr} (h : Strm H a) : Chg (H a) := let ⟨d, s, e⟩ := h; by rw [e]; trivial
theorem Strm.ne {H : Hp} {a p : Addr} (h : Strm H a) (hp : H p = none) : p ≠ a := fun e => by
  obtain ⟨d, s, e2⟩ := h
  rw [e, e2] at hp
  cases hp
theorem strm_upd {H : Hp} {a : Addr} {d s : Int} : Strm (upd H a (HO.lst [V.int d, V.int s])) a := ⟨d, s, upd_same⟩
def sp__law_stream (G : Gv) : Sp := fun vs H Q _ => ∃ c k : Int, vs = [V.int c, V.int k] ∧ ∀ p d s, H p = none → Q (V.ref p) (upd H p (HO.lst [V.int d, V.int s]))
def sp__law_next (G : Gv) : Sp := fun vs H Q _ => ∃ (a : Addr) (d s z : Int), vs = [V.ref a, V.int z] ∧ H a = some (HO.lst [V.int d, V.int s]) ∧ 0 < z ∧ z < 2 ^ 63 ∧
  ∀ d' s' r : Int, 0 ≤ r → r < z → Q (V.int r) (upd H a (HO.lst [V.int d', V.int s']))
theorem draw {G : Gv} {H : Hp} {a : Addr} {z : Int} {Q : VK} {E : XK} (hA : Strm H a) (h1 : 0 < z ∧ z < 2 ^ 63) (k : ∀ d s r : Int, 0 ≤ r → r < z → Q (V.int r) (upd H a (HO.lst [V.int d, V.int s]))) : sp__law_next G [V.ref a, V.int z] H Q E := by
  obtain ⟨d, s, h⟩ := hA
  exact ⟨a, d, s, z, rfl, h, h1.1, h1.2, k⟩
/-- .. what stays told only -/
theorem drawF {G : Gv} {H : Hp} {a : Addr} {z : Int} {Q : VK} {E : XK} (hA : Strm H a) (h1 : 0 < z ∧ z < 2 ^ 63) (k : ∀ H' (r : Int), 0 ≤ r → r < z → Fx [a] H H' → Strm H' a → Q (V.int r) H') : sp__law_next G [V.ref a, V.int z] H Q E :=
  draw hA h1 fun d s r h0 h1 => k _ r h0 h1 ((Fx.refl _ _).put (by simp) hA.chg) strm_upd
end
section
/-! K45s: promises of the post and of the law. -/
/-- a sent thing: who, to whom, what -/
structure Snt where
  frm : Str
  to : Str
  par : PyData
def Snt.data (s : Snt) : PyData := .tuple [.str s.frm, .str s.to, s.par]
structure SntOk (s : Snt) : Prop where
  fin : FineN 20 s.data
  nol : noL s.data = true
/-- so many were sent, these are kept -/
structure Kept (n : Nat) (m : List (Nat × Snt)) : Prop where
  le : n ≤ 60
  keys : ∀ p ∈ m, 1 ≤ p.1 ∧ p.1 ≤ n
  nd : (m.map (·.1)).Nodup
  ok : ∀ p ∈ m, SntOk p.2
  len : m.length ≤ n
/-- a store from numbers to sent things -/
def Par (K : PySem.W.Frag) (H : Hp) (kvs : List (Key × V)) (m : List (Nat × Snt)) : Prop :=
  kvs.map (·.1) = m.map (fun p => (Sum.inl (p.1 : Int) : Key)) ∧ DpAll K H (kvs.map (·.2)) (m.map fun p => p.2.data)
def PostAt (G : Gv) (H : Hp) (p d : Addr) (n : Nat) (m : List (Nat × Snt)) : Prop :=
  ∃ dx kvs, H p = some (.ins (He.ga G.K "Post") dx [("sent", .int n), ("_parcels", .ref d)]) ∧ H d = some (.dK kvs) ∧ Par G.K H kvs m
def ModAt (G : Gv) (H : Hp) (p d : Addr) (n : Nat) (m : List (Nat × Snt)) : Prop :=
  ∃ kvs, H p = some (.dK [(.inr "sent", .int n), (.inr "parcels", .ref d)]) ∧ H d = some (.dK kvs) ∧ Par G.K H kvs m
def look (m : List (Nat × Snt)) (i : Int) : Option Snt := (m.find? fun p => decide ((p.1 : Int) = i)).map (·.2)
def drop (m : List (Nat × Snt)) (i : Int) : List (Nat × Snt) := m.filter fun p => decide ((p.1 : Int) ≠ i)
def badD : PyData := .tuple [.str "refused", .str "bad"]
def unkD : PyData := .tuple [.str "refused", .str "unknown"]
def sp_Post___init__ (G : Gv) : Sp := fun vs H Q _ => ∃ p dx, vs = [.ref p] ∧ H p = some (.ins (He.ga G.K "Post") dx []) ∧ ∀ d, H d = none → d ≠ p →
  Q .non (upd (upd (upd H p (.ins (He.ga G.K "Post") dx [("sent", .int 0)])) d (.dK [])) p (.ins (He.ga G.K "Post") dx [("sent", .int 0), ("_parcels", .ref d)]))
def sp_Post_put (G : Gv) : Sp := fun vs H Q E => ∃ p d n m x y z dx dy dz, vs = [.ref p, x, y, z] ∧ PostAt G H p d n m ∧ Kept n m ∧ n < 60 ∧ Dp G.K H x dx ∧ Dp G.K H y dy ∧ Dp G.K H z dz ∧ Fine dx ∧ Fine dy ∧ FineN 19 dz ∧
  (isNameD dx = true → isNameD dy = true → isParcelD dz = true → noL dz = true ∧ ∀ H' s, s.data = .tuple [dx, dy, dz] → Fx [p, d] H H' → PostAt G H' p d (n + 1) (m ++ [(n + 1, s)]) → Kept (n + 1) (m ++ [(n + 1, s)]) → Q (.int ((n + 1 : Nat) : Int)) H') ∧
  (isNameD dx = false ∨ isNameD dy = false ∨ isParcelD dz = false → ∀ H', Ext H H' → E (.ref (He.ga G.K "BadValue")) none H')
def sp_Post_parcel (G : Gv) : Sp := fun vs H Q E => ∃ p d n m i, vs = [.ref p, .int i] ∧ PostAt G H p d n m ∧
  (∀ s v, look m i = some s → Dp G.K H v s.data → Q v H) ∧ (look m i = none → E (.ref (He.ga G.K "Unknown")) none H)
def sp_Post_lose (G : Gv) : Sp := fun vs H Q E => ∃ p d n m i, vs = [.ref p, .int i] ∧ PostAt G H p d n m ∧ Kept n m ∧
  (∀ s H', look m i = some s → Fx [d] H H' → PostAt G H' p d n (drop m i) → Kept n (drop m i) → Q .non H') ∧ (look m i = none → E (.ref (He.ga G.K "Unknown")) none H)
def nums (m : List (Nat × Snt)) : List Int := m.map fun p => (p.1 : Int)
/-- m ascends -/
def Asc (m : List (Nat × Snt)) : Prop := (nums m).Pairwise (· < ·)
def sp_Post_numbers (G : Gv) : Sp := fun vs H Q _ => ∃ p d n m, vs = [.ref p] ∧ PostAt G H p d n m ∧ Kept n m ∧ Asc m ∧ ∀ l, H l = none → Q (.ref l) (upd H l (.lst ((nums m).map V.int)))
def sp_Post___len__ (G : Gv) : Sp := fun vs H Q _ => ∃ p d n m, vs = [.ref p] ∧ PostAt G H p d n m ∧ Q (.int (m.length : Nat)) H
def sp_Post___iter__ (G : Gv) (n0 : Nat) : Sp := fun vs H Q _ => ∃ (p dx d : Addr) (f : List (Str × V)) (o : Obj) (kvs : List (Key × V)), vs = [.ref p] ∧ H p = some (.ins (He.ga G.K "Post") dx f) ∧ f.lookup ("_parcels" : Str) = some (.ref d) ∧ H d = some (.frz o (.dK kvs)) ∧
  ∀ it, H it = none → n0 ≤ it → Q (.ref it) (upd H it (FreshIt G.P G.w G.K it (Itk d o kvs)))
def sp__law_is (G : Gv) : Sp := fun vs H Q _ => ∃ i j : Int, vs = [.int i, .int j] ∧ Q (.bl (decide (i = j))) H
def sp__law_name (G : Gv) : Sp := fun vs H Q _ => ∃ a, vs = [V.ref a] ∧ Strm H a ∧ ∀ z d s, nameL z.cps.toList = true → Q (V.str z) (upd H a (HO.lst [V.int d, V.int s]))
/-- a parcel stands at p -/
def ParcAt (K : PySem.W.Frag) (H : Hp) (p : Addr) (d : PyData) : Prop :=
  ∃ k r w dr dw, SqT K H p [.str k, r, w] ∧ Dp K H r dr ∧ Dp K H w dw ∧ d = .tuple [.str k, dr, dw] ∧ isParcelD d = true ∧ FineN 10 d ∧ noL d = true
def sp__law_parcel (G : Gv) : Sp := fun vs H Q _ => ∃ a, vs = [V.ref a] ∧ Strm H a ∧ ∀ p d H', Fx [a] H H' → Strm H' a → ParcAt G.K H' p d → Q (.ref p) H'
def sp__law_odd (G : Gv) : Sp := fun vs H Q _ => ∃ a p d, vs = [V.ref a, .ref p] ∧ Strm H a ∧ ParcAt G.K H p d ∧
  ∀ l x y dx dy H', Fx [a] H H' → Strm H' a → H' l = some (.lst [x, y]) → (∀ H2, Fx [a] H' H2 → Dp G.K H2 x dx) → (∀ H2, Fx [a] H' H2 → Dp G.K H2 y dy) → Fine dx → FineN 19 dy → isNameD dx = false → isParcelD dy = false → Q (.ref l) H'
def sp__law_put (G : Gv) : Sp := fun vs H Q _ => ∃ p d n m x y z dx dy dz, vs = [.ref p, x, y, z] ∧ PostAt G H p d n m ∧ Kept n m ∧ n < 60 ∧ Dp G.K H x dx ∧ Dp G.K H y dy ∧ Dp G.K H z dz ∧ Fine dx ∧ Fine dy ∧ FineN 19 dz ∧
  (isNameD dx = true → isNameD dy = true → isParcelD dz = true → noL dz = true ∧ ∀ H' s, s.data = .tuple [dx, dy, dz] → Fx [p, d] H H' → PostAt G H' p d (n + 1) (m ++ [(n + 1, s)]) → Kept (n + 1) (m ++ [(n + 1, s)]) → Q (.int ((n + 1 : Nat) : Int)) H') ∧
  (isNameD dx = false ∨ isNameD dy = false ∨ isParcelD dz = false → ∀ H' T, Ext H H' → Dp G.K H' (.ref T) badD → Q (.ref T) H')
def sp__law_asked (G : Gv) : Sp := fun vs H Q _ => ∃ p d n m i b, vs = [.ref p, .int i, .bl b] ∧ PostAt G H p d n m ∧ Kept n m ∧
  (∀ s, look m i = some s → b = true → ∀ H', Fx [d] H H' → PostAt G H' p d n (drop m i) → Kept n (drop m i) → Q .non H') ∧
  (∀ s v, look m i = some s → b = false → Dp G.K H v s.data → Q v H) ∧
  (look m i = none → ∀ H' T, Ext H H' → Dp G.K H' (.ref T) unkD → Q (.ref T) H')
def sp__law_same (G : Gv) : Sp := fun vs H Q _ => ∃ p d q e n m, vs = [.ref p, .ref q] ∧ PostAt G H p d n m ∧ ModAt G H q e n m ∧ Kept n m ∧ Asc m ∧ ∀ H', Ext H H' → Q (.bl true) H'
/-- a post and its model -/
structure Both (G : Gv) (H : Hp) (p d q e : Addr) (n : Nat) (m : List (Nat × Snt)) : Prop where
  post : PostAt G H p d n m
  mod : ModAt G H q e n m
  kept : Kept n m
  asc : Asc m
def sp__law_tries_put (G : Gv) : Sp := fun vs H Q _ => ∃ p d q e a n m, vs = [.ref p, .ref q, .ref a] ∧ Both G H p d q e n m ∧ Strm H a ∧ d ≠ e ∧ d ≠ q ∧ n < 60 ∧
  ∀ H' n' m', Fx [p, d, q, e, a] H H' → Both G H' p d q e n' m' → n' ≤ n + 1 → Q (.bl true) H'
def sp__law_tries_number (G : Gv) : Sp := fun vs H Q _ => ∃ p d q e a b n m, vs = [.ref p, .ref q, .ref a, .bl b] ∧ Both G H p d q e n m ∧ Strm H a ∧ d ≠ e ∧ d ≠ q ∧
  ∀ H' m', Fx [p, d, q, e, a] H H' → Both G H' p d q e n m' → Q (.bl true) H'
def sp_law (G : Gv) : Sp := fun vs H Q _ => ∃ (a : Addr) (ns : List Int), vs = [V.ref a] ∧ SqL G.K H a (ns.map V.int) ∧ ns.length ≤ 63 ∧ ∀ H', Q (V.bl true) H'
end
section
/-! K45r: readings, printed by gen.py. -/
def N_Post___init__ : List Str := ["self"]
def t_Post___init__ (G : Gv) : TS :=
  (tSeq (sFldC (He.ga G.K "Post") "sent" (tVar 0) (tC (.int 0)))
    (sFldC (He.ga G.K "Post") "_parcels" (tVar 0) tDNewK))
def N_Post_parcel : List Str := ["self", "number"]
def t_Post_parcel (G : Gv) (W : WX) : TS :=
  (tSeq (tIfS (tB (tDNotIn (tVar 1) (tFldC (He.ga G.K "Post") "_parcels" (tVar 0)))) (tRaise (He.ga G.K "Unknown") W) tNext)
    (tRet (tDGet (tFldC (He.ga G.K "Post") "_parcels" (tVar 0)) (tVar 1))))
def N_Post_lose : List Str := ["self", "number"]
def t_Post_lose (G : Gv) (W : WX) : TS :=
  (tSeq (tIfS (tB (tDNotIn (tVar 1) (tFldC (He.ga G.K "Post") "_parcels" (tVar 0)))) (tRaise (He.ga G.K "Unknown") W) tNext)
    (sDDel (tFldC (He.ga G.K "Post") "_parcels" (tVar 0)) (tVar 1)))
def N_Post_numbers : List Str := ["self"]
def t_Post_numbers (G : Gv) : TS :=
  (tRet (tCB rSortedDI (tCons (tFldC (He.ga G.K "Post") "_parcels" (tVar 0)) tNil)))
def N_Post___len__ : List Str := ["self"]
def t_Post___len__ (G : Gv) : TS :=
  (tRet (tCB rLenD (tCons (tFldC (He.ga G.K "Post") "_parcels" (tVar 0)) tNil)))
def N_Post___iter__ : List Str := ["self"]
def t_Post___iter__ (G : Gv) (n : Nat) : TS :=
  (tRet (tCB (rIterD G.P G.w G.K n) (tCons (tFldC (He.ga G.K "Post") "_parcels" (tVar 0)) tNil)))
def N__law_stream : List Str := ["_law_cell", "_law_k", "_law_digits"]
def t__law_stream (G : Gv) : TS :=
  (tSeq (tAsg (tC (.int 0)) (gName 2))
    (tMid (tIfS (tTest (tOp rGeI (tVar 0) (tOp rPowI (tC (.int 10)) (tC (.int 18))))) (tAsg (tVar 0) (gName 2)) tNext)
    (tRet (tLst (tCons (tVar 2) (tCons (tOp rModI (tCB rInt1 (tCons (tOp rAddI (tOp rAddI (tOp rMulI (tVar 0) (tC (.int 48271))) (tOp rMulI (tVar 1) (tC (.int 69621)))) (tC (.int 77))) tNil)) (tC (.int 2147483647))) tNil))))))
def N__law_next : List Str := ["_law_stream_here", "_law_size", "_law_drawn"]
def t__law_next (G : Gv) : TS :=
  (tSeq (tIfS (tTest (tOp rGtI (tOp (rIxL G.K) (tVar 0) (tC (.int 0))) (tC (.int 0)))) (tSeq (tAsg (tOp rModI (tCB rInt1 (tCons (tOp (rIxL G.K) (tVar 0) (tC (.int 0))) tNil)) (tVar 1)) (gName 2))
    (tSeq (tAsg (tOp rDivI (tOp (rIxL G.K) (tVar 0) (tC (.int 0))) (tVar 1)) (gSub (tVar 0) (tC (.int 0)) rSetL))
    (tRet (tVar 2)))) tNext)
    (tSeq (tAsg (tOp rModI (tCB rInt1 (tCons (tOp rAddI (tOp rMulI (tOp (rIxL G.K) (tVar 0) (tC (.int 1))) (tC (.int 48271))) (tC (.int 12820163))) tNil)) (tC (.int 2147483647))) (gSub (tVar 0) (tC (.int 1)) rSetL))
    (tRet (tOp rModI (tCB rInt1 (tCons (tOp rDivI (tOp rModI (tCB rInt1 (tCons (tOp rAddI (tOp rMulI (tOp (rIxL G.K) (tVar 0) (tC (.int 1))) (tC (.int 16807))) (tC (.int 5))) tNil)) (tC (.int 2147483399))) (tC (.int 3))) tNil)) (tVar 1)))))
def N__law_is : List Str := ["_law_actual", "_law_due"]
def t__law_is (G : Gv) : TS :=
  (tRet (tAndV (tCB (rIsi G.K) (tCons (tVar 0) (tCons (tC (.ty "int")) tNil))) (tAndV (tNotV (tCB (rIsi G.K) (tCons (tVar 0) (tCons (tC (.ty "bool")) tNil)))) (tOp rEq (tVar 0) (tVar 1)))))
def N__law_name : List Str := ["_law_stream_here", "_law_signs", "_law_size", "_law_name_here", "_law_k"]
def t__law_name (G : Gv) : TS :=
  (tSeq (tAsg (tC (.str "abcdefghijklmnopqrstuvwxyz0123456789")) (gName 1))
    (tSeq (tAsg (tOp rAddI (tC (.int 1)) (tCall (sp__law_next G) [] E0 (tCons (tVar 0) (tCons (tC (.int 12)) tNil)))) (gName 2))
    (tSeq (tAsg (tOp rIxS (tVar 1) (tCall (sp__law_next G) [] E0 (tCons (tVar 0) (tCons (tC (.int 26)) tNil)))) (gName 3))
    (tSeq (tFor (iRng1 (tCons (tOp rSubI (tVar 2) (tC (.int 1))) tNil)) (gName 4) (tAsg (tOp rAddS (tVar 3) (tOp rIxS (tVar 1) (tCall (sp__law_next G) [] E0 (tCons (tVar 0) (tCons (tC (.int 36)) tNil))))) (gName 3)))
    (tRet (tVar 3))))))
def N__law_odd : List Str := ["_law_stream_here", "_law_parcel_here", "_law_things", "_law_parcels", "_law_odd_here"]
def t__law_odd (G : Gv) : TS :=
  (tSeq (tAsg (tLst (tCons (tC .non) (tCons (tC (.int 7)) (tCons (tC (.str "")) (tCons (tC (.str "Anna")) (tCons (tTup (tCons (tC (.str "anna")) tNil)) (tCons (tC (.str "a b")) (tCons (tC (.str "abcdefghijklm")) (tCons (tC (.bl true)) tNil))))))))) (gName 2))
    (tSeq (tAsg (tLst (tCons (tC .non) (tCons (tSl (rSlT G.K) (tVar 1) tNoPart (tPart (tC (.int 2)))) (tCons (tCB (rListOf G.K) (tCons (tVar 1) tNil)) (tCons (tOp (rIxT G.K) (tVar 1) (tC (.int 0))) (tCons (tTup (tCons (tC (.str "have")) (tCons (tOp (rIxT G.K) (tVar 1) (tC (.int 1))) (tCons (tC .non) tNil)))) (tCons (tTup (tCons (tC (.str "letters")) (tCons (tOp (rIxT G.K) (tVar 1) (tC (.int 1))) (tCons (tTup tNil) tNil)))) (tCons (tTup tNil) (tCons (tC (.int 7)) tNil))))))))) (gName 3))
    (tSeq (tAsg (tLst (tCons (tOp (rIxL G.K) (tVar 2) (tCall (sp__law_next G) [] E0 (tCons (tVar 0) (tCons (tC (.int 8)) tNil)))) (tCons (tOp (rIxL G.K) (tVar 3) (tCall (sp__law_next G) [] E0 (tCons (tVar 0) (tCons (tC (.int 8)) tNil)))) tNil))) (gName 4))
    (tRet (tVar 4)))))
def N__law_asked : List Str := ["_law_post", "_law_number", "_law_loses", "e"]
def t__law_asked (G : Gv) : TS :=
  (tSeq (tTryAs G.K [("BadBody", false), ("BadLetter", false), ("BadMail", false), ("BadValue", false), ("Contradiction", false), ("Down", false), ("Exists", false), ("NotKeeper", false), ("NotMember", false), ("Unknown", true)] 3 (fun W1 => (tSeq (tIfS (tB (tVar 2)) (tRet (tMethS (He.ga G.K "Post") "lose" (sp_Post_lose G) W1 (tVar 0) (tCons (tVar 1) tNil))) tNext)
    (tRet (tMethS (He.ga G.K "Post") "parcel" (sp_Post_parcel G) W1 (tVar 0) (tCons (tVar 1) tNil))))) (fun sa1 scls1 sd1 => (tIfS (tAnd (tB (tCB (tIsE1 G.K sa1 scls1 sd1 [("BadBody", true), ("BadLetter", true), ("BadMail", true), ("BadValue", true), ("Contradiction", true), ("Down", true), ("Exists", true), ("NotKeeper", true), ("NotMember", true), ("Unknown", true)] (.own "RoomError")) (tCons (tVar 3) (tCons (tC (.ref (He.ga G.K "RoomError"))) tNil)))) (tAnd (tB (tCB (tIsE1 G.K sa1 scls1 sd1 [("BadBody", true), ("BadLetter", true), ("BadMail", true), ("BadValue", true), ("Contradiction", true), ("Down", true), ("Exists", true), ("NotKeeper", true), ("NotMember", true), ("Unknown", true)] (.ty "ValueError")) (tCons (tVar 3) (tCons (tC (.ty "ValueError")) tNil)))) (tNot (tB (tCB (tIsE1 G.K sa1 scls1 sd1 [("BadBody", false), ("BadLetter", false), ("BadMail", false), ("BadValue", true), ("Contradiction", false), ("Down", false), ("Exists", false), ("NotKeeper", false), ("NotMember", false), ("Unknown", false)] (.own "BadValue")) (tCons (tVar 3) (tCons (tC (.ref (He.ga G.K "BadValue"))) tNil))))))) (tRet (tTup (tCons (tC (.str "refused")) (tCons (tC (.str "unknown")) tNil)))) tNext)) W0)
    (tRet (tTup (tCons (tC (.str "refused")) (tCons (tC (.str "wrong")) tNil)))))
def N__law_parcel : List Str := ["_law_stream_here", "_law_room", "_law_names", "_law_k", "_law_name_here", "_law_author", "_law_value"]
def t__law_parcel (G : Gv) : TS :=
  (tSeq (tAsg (tTup (tCons (tCall (sp__law_name G) [] E0 (tCons (tVar 0) tNil)) (tCons (tCall (sp__law_name G) [] E0 (tCons (tVar 0) tNil)) tNil))) (gName 1))
    (tSeq (tIfS (tTest (tOp rEq (tCall (sp__law_next G) [] E0 (tCons (tVar 0) (tCons (tC (.int 2)) tNil))) (tC (.int 0)))) (tSeq (tAsg (tLst tNil) (gName 2))
    (tSeq (tFor (iRng1 (tCons (tCall (sp__law_next G) [] E0 (tCons (tVar 0) (tCons (tC (.int 5)) tNil))) tNil)) (gName 3) (tSeq (tAsg (tCall (sp__law_name G) [] E0 (tCons (tVar 0) tNil)) (gName 4))
    (tIfS (tTest (tOp (rIn G.K true) (tVar 4) (tVar 2))) (tDrop (tBM G.K "list" rAppend (tVar 2) (tCons (tVar 4) tNil))) tNext)))
    (tRet (tTup (tCons (tC (.str "have")) (tCons (tVar 1) (tCons (tCB (rTupleOf G.K) (tCons (tLc (iList G.K (tCB (rSortedStr G.K) (tCons (tVar 2) tNil))) (gName 4) tYes (tTup (tCons (tVar 4) (tCons (tOp rAddI (tC (.int 1)) (tCall (sp__law_next G) [] E0 (tCons (tVar 0) (tCons (tOp rPowI (tC (.int 10)) (tC (.int 9))) tNil)))) tNil))) [4]) tNil)) tNil))))))) tNext)
    (tSeq (tAsg (tCall (sp__law_name G) [] E0 (tCons (tVar 0) tNil)) (gName 5))
    (tSeq (tAsg (tTup (tCons (tVar 5) (tCons (tC (.int 1)) (tCons (tC (.int 1)) (tCons (tTup (tCons (tTup (tCons (tVar 5) (tCons (tC (.int 1)) tNil))) tNil)) (tCons (tTup (tCons (tC (.str "found")) (tCons (tOp rMulS (tC (.str "t")) (tCall (sp__law_next G) [] E0 (tCons (tVar 0) (tCons (tC (.int 61)) tNil)))) (tCons (tTup tNil) tNil)))) tNil)))))) (gName 6))
    (tRet (tTup (tCons (tC (.str "letters")) (tCons (tVar 1) (tCons (tOp (rRepT1 G.K) (tTup (tCons (tVar 6) tNil)) (tOp rAddI (tC (.int 1)) (tCall (sp__law_next G) [] E0 (tCons (tVar 0) (tCons (tC (.int 3)) tNil))))) tNil)))))))))
def N__law_same : List Str := ["_law_post", "_law_model", "_law_numbers", "_law_told", "_law_walked", "_law_number"]
def t__law_same (G : Gv) : TS :=
  (tSeq (tAsg (tCB rSortedDI (tCons (tDGet (tVar 1) (tC (.str "parcels"))) tNil)) (gName 2))
    (tSeq (tAsg (tMeth (He.ga G.K "Post") "numbers" (sp_Post_numbers G) [] E0 (tVar 0) tNil) (gName 3))
    (tSeq (tIfS (tOr (tNot (tB (tCB (rIsi G.K) (tCons (tVar 3) (tCons (tC (.ty "list")) tNil))))) (tOr (tTest (tOp (rNeD G.K) (tVar 3) (tVar 2))) (tNot (tB (tCall (sp__law_is G) [] E0 (tCons (tCB (rLenO (He.ga G.K "Post") (sp_Post___len__ G)) (tCons (tVar 0) tNil)) (tCons (tCB (rLen G.K) (tCons (tVar 2) tNil)) tNil))))))) (tRet (tC (.bl false))) tNext)
    (tSeq (tDrop (tBM G.K "list" rAppend (tVar 3) (tCons (tC (.int 0)) tNil)))
    (tSeq (tLock (tAsg (tLc (iOwn G.P G.w G.K (He.ga G.K "Post") (sp_Post___iter__ G) (tVar 0)) (gName 5) tYes (tVar 5) [5]) (gName 4)))
    (tSeq (tIfS (tOr (tTest (tOp (rNeD G.K) (tVar 4) (tVar 2))) (tOr (tTest (tOp (rNeD G.K) (tMeth (He.ga G.K "Post") "numbers" (sp_Post_numbers G) [] E0 (tVar 0) tNil) (tVar 2))) (tNot (tB (tCall (sp__law_is G) [] E0 (tCons (tFldC (He.ga G.K "Post") "sent" (tVar 0)) (tCons (tDGet (tVar 1) (tC (.str "sent"))) tNil))))))) (tRet (tC (.bl false))) tNext)
    (tRet (tOp (rEqD G.K) (tLc (iList G.K (tOp rCat (tVar 4) (tVar 3))) (gName 5) (tB (tCB (rIsi G.K) (tCons (tVar 5) (tCons (tC (.ty "bool")) tNil)))) (tVar 5) [5]) (tLst tNil)))))))))
def N__law_tries_number : List Str := ["_law_post", "_law_model", "_law_stream_here", "_law_loses", "_law_number", "_law_actual"]
def t__law_tries_number (G : Gv) : TS :=
  (tSeq (tAsg (tOp rSubI (tCall (sp__law_next G) [] E0 (tCons (tVar 2) (tCons (tOp rAddI (tDGet (tVar 1) (tC (.str "sent"))) (tC (.int 5))) tNil))) (tC (.int 2))) (gName 4))
    (tMid (tIfS (tTest (tOp rEq (tCall (sp__law_next G) [] E0 (tCons (tVar 2) (tCons (tC (.int 9)) tNil))) (tC (.int 0)))) (tAsg (tOp rSubI (tOp rPowI (tC (.int 10)) (tC (.int 18))) (tCall (sp__law_next G) [] E0 (tCons (tVar 2) (tCons (tOp rMulI (tC (.int 2)) (tOp rPowI (tC (.int 10)) (tC (.int 18)))) tNil)))) (gName 4)) tNext)
    (tSeq (tIfS (tB (tDNotIn (tVar 4) (tDGet (tVar 1) (tC (.str "parcels"))))) (tSeq (tAsg (tCall (sp__law_asked G) [] E0 (tCons (tVar 0) (tCons (tVar 4) (tCons (tVar 3) tNil)))) (gName 5))
    (tRet (tAndV (tCB (rIsi G.K) (tCons (tVar 5) (tCons (tC (.ty "tuple")) tNil))) (tOp (rEqD G.K) (tVar 5) (tTup (tCons (tC (.str "refused")) (tCons (tC (.str "unknown")) tNil))))))) tNext)
    (tSeq (tAsg (tCall (sp__law_asked G) [] E0 (tCons (tVar 0) (tCons (tVar 4) (tCons (tVar 3) tNil)))) (gName 5))
    (tSeq (tIfS (tB (tVar 3)) (tSeq (tDrop (tDPop1 (tDGet (tVar 1) (tC (.str "parcels"))) (tVar 4)))
    (tRet (tOp rIsN (tVar 5) (tC .non)))) tNext)
    (tRet (tAndV (tCB (rIsi G.K) (tCons (tVar 5) (tCons (tC (.ty "tuple")) tNil))) (tOp (rEqD G.K) (tVar 5) (tDGet (tDGet (tVar 1) (tC (.str "parcels"))) (tVar 4))))))))))
def N_Post_put : List Str := ["self", "sender", "receiver", "parcel"]
def t_Post_put (G : Gv) (W : WX) : TS :=
  (tSeq (tIfS (tOr (tNot (tB (tCall (sp_is_name G) [] E0 (tCons (tVar 1) tNil)))) (tOr (tNot (tB (tCall (sp_is_name G) [] E0 (tCons (tVar 2) tNil)))) (tNot (tB (tCall (sp_is_parcel G) [] E0 (tCons (tVar 3) tNil)))))) (tRaise (He.ga G.K "BadValue") W) tNext)
    (tSeq (sFldAugC (He.ga G.K "Post") "sent" rAddI (tVar 0) (tC (.int 1)))
    (tSeq (sDPut (tFldC (He.ga G.K "Post") "_parcels" (tVar 0)) (tFldC (He.ga G.K "Post") "sent" (tVar 0)) (tTup (tCons (tVar 1) (tCons (tVar 2) (tCons (tVar 3) tNil)))))
    (tRet (tFldC (He.ga G.K "Post") "sent" (tVar 0))))))
def N__law_put : List Str := ["_law_post", "_law_sender", "_law_receiver", "_law_parcel_here", "e", "_law_others"]
def t__law_put (G : Gv) : TS :=
  (tSeq (tTryAs G.K [("BadBody", false), ("BadLetter", false), ("BadMail", false), ("BadValue", true), ("Contradiction", false), ("Down", false), ("Exists", false), ("NotKeeper", false), ("NotMember", false), ("Unknown", false)] 4 (fun W1 => (tRet (tMethS (He.ga G.K "Post") "put" (sp_Post_put G) W1 (tVar 0) (tCons (tVar 1) (tCons (tVar 2) (tCons (tVar 3) tNil)))))) (fun sa1 scls1 sd1 => (tSeq (tAsg (tCB (tIsET G.K sa1 scls1 sd1 [("BadBody", true), ("BadLetter", true), ("BadMail", true), ("BadValue", false), ("Contradiction", true), ("Down", true), ("Exists", true), ("NotKeeper", true), ("NotMember", true), ("Unknown", true)] [.own "BadBody", .own "BadLetter", .own "BadMail", .own "Contradiction", .own "Down", .own "Exists", .own "NotKeeper", .own "NotMember", .own "Unknown"]) (tCons (tVar 4) (tCons (tTup (tCons (tC (.ref (He.ga G.K "BadBody"))) (tCons (tC (.ref (He.ga G.K "BadLetter"))) (tCons (tC (.ref (He.ga G.K "BadMail"))) (tCons (tC (.ref (He.ga G.K "Contradiction"))) (tCons (tC (.ref (He.ga G.K "Down"))) (tCons (tC (.ref (He.ga G.K "Exists"))) (tCons (tC (.ref (He.ga G.K "NotKeeper"))) (tCons (tC (.ref (He.ga G.K "NotMember"))) (tCons (tC (.ref (He.ga G.K "Unknown"))) tNil)))))))))) tNil))) (gName 5))
    (tIfS (tAnd (tB (tCB (tIsE1 G.K sa1 scls1 sd1 [("BadBody", true), ("BadLetter", true), ("BadMail", true), ("BadValue", true), ("Contradiction", true), ("Down", true), ("Exists", true), ("NotKeeper", true), ("NotMember", true), ("Unknown", true)] (.own "RoomError")) (tCons (tVar 4) (tCons (tC (.ref (He.ga G.K "RoomError"))) tNil)))) (tAnd (tB (tCB (tIsE1 G.K sa1 scls1 sd1 [("BadBody", true), ("BadLetter", true), ("BadMail", true), ("BadValue", true), ("Contradiction", true), ("Down", true), ("Exists", true), ("NotKeeper", true), ("NotMember", true), ("Unknown", true)] (.ty "ValueError")) (tCons (tVar 4) (tCons (tC (.ty "ValueError")) tNil)))) (tNot (tB (tVar 5))))) (tRet (tTup (tCons (tC (.str "refused")) (tCons (tC (.str "bad")) tNil)))) tNext))) W0)
    (tRet (tTup (tCons (tC (.str "refused")) (tCons (tC (.str "wrong")) tNil)))))
def N__law_tries_put : List Str := ["_law_post", "_law_model", "_law_stream_here", "_law_sender", "_law_receiver", "_law_parcel_here", "_law_thing", "_law_other", "_law_way", "_law_pairs"]
def t__law_tries_put (G : Gv) : TS :=
  (tSeq (tAsg (tCall (sp__law_name G) [] E0 (tCons (tVar 2) tNil)) (gName 3))
    (tSeq (tAsg (tVar 3) (gName 4))
    (tMid (tIfS (tTest (tOp rGtI (tCall (sp__law_next G) [] E0 (tCons (tVar 2) (tCons (tC (.int 5)) tNil))) (tC (.int 0)))) (tAsg (tCall (sp__law_name G) [] E0 (tCons (tVar 2) tNil)) (gName 4)) tNext)
    (tSeq (tAsg (tCall (sp__law_parcel G) [] E0 (tCons (tVar 2) tNil)) (gName 5))
    (tSeq (tAsg (tCall (sp__law_odd G) [] E0 (tCons (tVar 2) (tCons (tVar 5) tNil))) (gLst G.K 2 (gCons (gName 6) (gCons (gName 7) gNil))))
    (tSeq (tAsg (tCall (sp__law_next G) [] E0 (tCons (tVar 2) (tCons (tC (.int 9)) tNil))) (gName 8))
    (tSeq (tIfS (tTest (tOp rLtI (tVar 8) (tC (.int 3)))) (tSeq (tAsg (tOp (rIxL G.K) (tLst (tCons (tTup (tCons (tVar 6) (tCons (tVar 4) (tCons (tVar 5) tNil)))) (tCons (tTup (tCons (tVar 3) (tCons (tVar 6) (tCons (tVar 5) tNil)))) (tCons (tTup (tCons (tVar 3) (tCons (tVar 4) (tCons (tVar 7) tNil)))) tNil)))) (tVar 8)) (gName 9))
    (tRet (tOp (rEqD G.K) (tCall (sp__law_put G) [] E0 (tCons (tVar 0) (tCons (tOp (rIxT G.K) (tVar 9) (tC (.int 0))) (tCons (tOp (rIxT G.K) (tVar 9) (tC (.int 1))) (tCons (tOp (rIxT G.K) (tVar 9) (tC (.int 2))) tNil))))) (tTup (tCons (tC (.str "refused")) (tCons (tC (.str "bad")) tNil)))))) tNext)
    (tSeq (sDPut (tVar 1) (tC (.str "sent")) (tOp rAddI (tDGet (tVar 1) (tC (.str "sent"))) (tC (.int 1))))
    (tSeq (sDPut (tDGet (tVar 1) (tC (.str "parcels"))) (tDGet (tVar 1) (tC (.str "sent"))) (tTup (tCons (tVar 3) (tCons (tVar 4) (tCons (tVar 5) tNil)))))
    (tRet (tCall (sp__law_is G) [] E0 (tCons (tCall (sp__law_put G) [] E0 (tCons (tVar 0) (tCons (tVar 3) (tCons (tVar 4) (tCons (tVar 5) tNil))))) (tCons (tDGet (tVar 1) (tC (.str "sent"))) tNil)))))))))))))
def N_law : List Str := ["_law_script", "_law_posts", "_law_models", "_law_k", "_law_stream_here", "_law_which", "_law_kind", "_law_right", "_law_number", "_law_actual"]
def t_law (G : Gv) : TS :=
  (tSeq (tAsg (tLst (tCons (tMake (He.ga G.K "Post") (sp_Post___init__ G) [] E0 tNil) (tCons (tMake (He.ga G.K "Post") (sp_Post___init__ G) [] E0 tNil) tNil))) (gName 1))
    (tSeq (tAsg (tLst (tCons (tDisp (((tC (.str "sent")), (tC (.int 0))) :: (((tC (.str "parcels")), tDNewK) :: []))) (tCons (tDisp (((tC (.str "sent")), (tC (.int 0))) :: (((tC (.str "parcels")), tDNewK) :: []))) tNil))) (gName 2))
    (tSeq (tFor (iRng1 (tCons (tCB rMin2 (tCons (tCB (rLen G.K) (tCons (tVar 0) tNil)) (tCons (tC (.int 60)) tNil))) tNil)) (gName 3) (tSeq (tAsg (tCall (sp__law_stream G) [] E0 (tCons (tOp (rIxL G.K) (tVar 0) (tVar 3)) (tCons (tVar 3) tNil))) (gName 4))
    (tSeq (tAsg (tCall (sp__law_next G) [] E0 (tCons (tVar 4) (tCons (tC (.int 2)) tNil))) (gName 5))
    (tSeq (tAsg (tCall (sp__law_next G) [] E0 (tCons (tVar 4) (tCons (tC (.int 10)) tNil))) (gName 6))
    (tMid (tIfS (tTest (tOp rLtI (tVar 6) (tC (.int 5)))) (tAsg (tCall (sp__law_tries_put G) [] E0 (tCons (tOp (rIxL G.K) (tVar 1) (tVar 5)) (tCons (tOp (rIxL G.K) (tVar 2) (tVar 5)) (tCons (tVar 4) tNil)))) (gName 7)) (tAsg (tCall (sp__law_tries_number G) [] E0 (tCons (tOp (rIxL G.K) (tVar 1) (tVar 5)) (tCons (tOp (rIxL G.K) (tVar 2) (tVar 5)) (tCons (tVar 4) (tCons (tOp rGtI (tVar 6) (tC (.int 7))) tNil))))) (gName 7)))
    (tIfS (tOr (tNot (tB (tVar 7))) (tOr (tNot (tB (tCall (sp__law_same G) [] E0 (tCons (tOp (rIxL G.K) (tVar 1) (tC (.int 0))) (tCons (tOp (rIxL G.K) (tVar 2) (tC (.int 0))) tNil))))) (tNot (tB (tCall (sp__law_same G) [] E0 (tCons (tOp (rIxL G.K) (tVar 1) (tC (.int 1))) (tCons (tOp (rIxL G.K) (tVar 2) (tC (.int 1))) tNil))))))) (tRet (tC (.bl false))) tNext))))))
    (tSeq (tFor (iRng1 (tCons (tC (.int 2)) tNil)) (gName 5) (tFor (iRng1 (tCons (tOp rAddI (tDGet (tOp (rIxL G.K) (tVar 2) (tVar 5)) (tC (.str "sent"))) (tC (.int 2))) tNil)) (gName 8) (tSeq (tAsg (tCall (sp__law_asked G) [] E0 (tCons (tOp (rIxL G.K) (tVar 1) (tVar 5)) (tCons (tVar 8) (tCons (tC (.bl false)) tNil)))) (gName 9))
    (tIfS (tTest (tOp (rNeD G.K) (tVar 9) (tDGet2 (tDGet (tOp (rIxL G.K) (tVar 2) (tVar 5)) (tC (.str "parcels"))) (tVar 8) (tTup (tCons (tC (.str "refused")) (tCons (tC (.str "unknown")) tNil)))))) (tRet (tC (.bl false))) tNext))))
    (tRet (tAndV (tCall (sp__law_same G) [] E0 (tCons (tOp (rIxL G.K) (tVar 1) (tC (.int 0))) (tCons (tOp (rIxL G.K) (tVar 2) (tC (.int 0))) tNil))) (tCall (sp__law_same G) [] E0 (tCons (tOp (rIxL G.K) (tVar 1) (tC (.int 1))) (tCons (tOp (rIxL G.K) (tVar 2) (tC (.int 1))) tNil)))))))))
end
section
/-! K45p: draws, names, parcels. -/
variable {G : Gv}
theorem pure__law_next (vs : List V) (H : Hp) (Q : VK) (E : XK) (h : sp__law_next G vs H Q E) : t__law_next G { nx := fun _ H' => Q .non H', rt := Q } (L2.start N__law_next vs) H := by
  obtain ⟨a, d, s, z, rfl, hA, hz, hz2, k⟩ := h
  show tSeq _ _ _ [some (V.ref a), some (V.int z), none] H
  walk_at "wp"
  refine ifD (fun h1 => ?_) (fun h1 => ?_)
  · walk_at "wp"
    exact k _ _ _ (Int.emod_nonneg _ (by omega)) (Int.emod_lt_of_pos _ hz)
  · walk_at "wp"
    refine k _ _ _ (Int.emod_nonneg _ (by omega)) (Int.emod_lt_of_pos _ hz)
theorem pure__law_stream (vs : List V) (H : Hp) (Q : VK) (E : XK) (h : sp__law_stream G vs H Q E) : t__law_stream G { nx := fun _ H' => Q .non H', rt := Q } (L2.start N__law_stream vs) H := by
  obtain ⟨c, k, rfl, q⟩ := h
  show tSeq _ _ _ [some (V.int c), some (V.int k), none] H
  walk_at "wp"
  refine w_mid (fun σ' H' => H' = H ∧ ∃ d, σ' = [some (V.int c), some (V.int k), some (V.int d)]) ?_ ?_
  · walk_at "wp"
    refine ifD (fun h1 => ?_) (fun h1 => ?_)
    · walk_at "wp"
      exact ⟨rfl, _, rfl⟩
    · walk_at "wp"
      exact ⟨rfl, _, rfl⟩
  · rintro σ' H' ⟨rfl, d, rfl⟩
    walk_at "wp"
    exact ⟨by simp; decide, fun p hp => q p _ _ hp⟩
theorem pure__law_is (vs : List V) (H : Hp) (Q : VK) (E : XK) (h : sp__law_is G vs H Q E) : t__law_is G { nx := fun _ H' => Q .non H', rt := Q } (L2.start N__law_is vs) H := by
  obtain ⟨i, j, rfl, q⟩ := h
  show tRet _ _ [some (V.int i), some (V.int j)] H
  walk_at "wp"
  exact q
def sg : Str := "abcdefghijklmnopqrstuvwxyz0123456789"
theorem sg_len : sg.cps.toList.length = 36 := by decide +kernel
theorem sg_word : ∀ c ∈ sg.cps.toList, wordC c = true := by decide +kernel
theorem sg_small : ∀ c ∈ sg.cps.toList.take 26, smallC c = true := by decide +kernel
theorem sg_slen : sg.length = 36 := by decide +kernel
theorem name_one {c : Nat} (h : smallC c = true) : nameL (⟨#[c]⟩ : Str).cps.toList = true := by
  show nameL [c] = true
  unfold nameL
  have : wordC c = true := by unfold wordC; rw [h]; rfl
  simp [h, this]
theorem tl_snoc (z : Str) (c : Nat) : (z ++ (⟨#[c]⟩ : Str)).cps.toList = z.cps.toList ++ [c] := TL.tl_append z ⟨#[c]⟩
theorem name_snoc {z : Str} {c : Nat} (h : nameL z.cps.toList = true) (hl : z.cps.toList.length < 12) (hc : wordC c = true) : nameL (z ++ (⟨#[c]⟩ : Str)).cps.toList = true := by
  rw [tl_snoc]
  unfold nameL at h ⊢
  obtain ⟨h1, h2⟩ := Bool.and_eq_true_iff.mp h
  obtain ⟨h3, h4⟩ := Bool.and_eq_true_iff.mp h2
  have h1 := of_decide_eq_true h1
  rw [Bool.and_eq_true_iff, Bool.and_eq_true_iff]
  refine ⟨decide_eq_true (by rw [List.length_append, List.length_singleton]; omega), by rw [List.all_append, h3]; simp [hc], ?_⟩
  have e : (z.cps.toList ++ [c]).getD 0 0 = z.cps.toList.getD 0 0 := by
    cases q : z.cps.toList with
    | nil => rw [q] at h1; simp at h1
    | cons a b => rfl
  rw [e]
  exact h4
theorem pure__law_name (vs : List V) (H : Hp) (Q : VK) (E : XK) (h : sp__law_name G vs H Q E) : t__law_name G { nx := fun _ H' => Q .non H', rt := Q } (L2.start N__law_name vs) H := by
  obtain ⟨a, rfl, hA, k⟩ := h
  show tSeq _ _ _ [some (V.ref a), none, none, none, none] H
  walk_at "wp"
  refine draw hA ⟨by decide, by decide⟩ fun d s r h0 h1 => ?_
  walk_at "wp"
  refine draw strm_upd ⟨by decide, by decide⟩ fun d2 s2 r2 h20 h21 => ?_
  rw [upd_upd]
  obtain ⟨c, hc, hm⟩ := val_at (l := sg.cps.toList.take 26) h20 (by rw [List.length_take, sg_len]; omega)
  have hc2 : atI sg.cps.toList r2 = some c := by
    obtain ⟨n, rfl⟩ := Int.eq_ofNat_of_zero_le h20
    have hn : n < 26 := by omega
    have e1 : (sg.cps.toList.take 26)[n]? = some c := by
      obtain ⟨v, hv⟩ : ∃ v, (sg.cps.toList.take 26)[n]? = some v := ⟨_, List.getElem?_eq_getElem (by rw [List.length_take, sg_len]; omega)⟩
      have := at_nat hv
      rw [hv]
      rw [this] at hc
      exact hc
    rw [List.getElem?_take_of_lt hn] at e1
    exact at_nat e1
  refine p_ixS (sl16 (by show sg.length ≤ _; rw [sg_slen]; omega)) hc2 ?_
  walk_at "wp"
  refine l_rng1 (fun i σ' H' => (∃ z v, σ' = [some (V.ref a), some (V.str sg), some (V.int (1 + r)), some (V.str z), v] ∧ nameL z.cps.toList = true ∧ z.cps.toList.length = i + 1) ∧ ∃ d s, H' = upd H a (HO.lst [V.int d, V.int s])) (by omega) ⟨⟨_, _, rfl, name_one (sg_small c hm), rfl⟩, _, _, rfl⟩ ?_ ?_
  · rintro i σ' H' hi ⟨⟨z, v, rfl, hz, hzl⟩, d, s, rfl⟩
    walk_at "wp"
    refine draw strm_upd ⟨by decide, by decide⟩ fun d3 s3 r3 h30 h31 => ?_
    rw [upd_upd]
    obtain ⟨c3, hc3, hm3⟩ := val_at (l := sg.cps.toList) h30 (by rw [sg_len]; omega)
    refine p_ixS (sl16 (by show sg.length ≤ _; rw [sg_slen]; omega)) hc3 ?_
    have hl : z.length = i + 1 := by rw [len_cps]; exact hzl
    refine p_addS (sl16 (by rw [hl]; show _ + 1 ≤ _; omega)) ?_
    walk_at "wp"
    refine ⟨⟨_, _, rfl, name_snoc hz (by omega) (sg_word c3 hm3), by rw [tl_snoc]; simp [hzl]⟩, _, _, rfl⟩
  · rintro σ' H' ⟨⟨z, v, rfl, hz, hzl⟩, d, s, rfl⟩
    walk_at "wp"
    exact k z _ _ hz
theorem nameL_len {l : List Nat} (h : nameL l = true) : 1 ≤ l.length ∧ l.length ≤ 12 := by
  unfold nameL at h
  exact of_decide_eq_true (Bool.and_eq_true_iff.mp h).1
theorem nameL_ok {z : Str} (h : nameL z.cps.toList = true) : PyData.strOk z = true := by
  unfold nameL at h
  have h2 := (Bool.and_eq_true_iff.mp (Bool.and_eq_true_iff.mp h).2).1
  unfold PyData.strOk
  rw [← Array.all_toList]
  rw [List.all_eq_true] at h2 ⊢
  intro c hc
  have := h2 c hc
  unfold wordC smallC at this
  rw [Bool.or_eq_true, decide_eq_true_iff, decide_eq_true_iff] at this
  exact decide_eq_true (by omega)
theorem name_fine {z : Str} {n : Nat} (h : nameL z.cps.toList = true) : FineN n (.str z) := .str (by rw [len_cps]; have := nameL_len h; omega) (nameL_ok h)
theorem rep_ok (k : Nat) : PyData.strOk (repS ("t" : Str) k) = true := by
  unfold PyData.strOk
  rw [← Array.all_toList, List.all_eq_true]
  intro c hc
  rw [repS_toList] at hc
  obtain ⟨l, hl, hc⟩ := List.mem_flatten.mp hc
  rw [List.mem_replicate] at hl
  rw [hl.2] at hc
  have all : ∀ c ∈ ("t" : Str).cps.toList, decide (c < 0x110000) = true := by decide +kernel
  exact all c hc
theorem nameF {H : Hp} {a : Addr} {Q : VK} {E : XK} (hA : Strm H a) (k : ∀ H' z, nameL z.cps.toList = true → Fx [a] H H' → Strm H' a → Q (.str z) H') : sp__law_name G [.ref a] H Q E :=
  ⟨a, rfl, hA, fun z d s hz => k _ z hz ((Fx.refl _ _).put (by simp) hA.chg) strm_upd⟩
/-! ### rows of counts -/
def rowD (p : Str × Int) : PyData := .tuple [.str p.1, .int p.2]
theorem row_ref {p : Str × Int} (h1 : nameL p.1.cps.toList = true) (h2 : numI p.2 = true) : isRefD (rowD p) = true := by
  show (nameL _ && numI _) = true
  rw [h1, h2]
  rfl
theorem leS_lt {a b : Str} (h : leS a b = true) (hne : a ≠ b) : a.cps.toList < b.cps.toList := by
  have h2 : a.cps.toList ≤ b.cps.toList := of_decide_eq_true h
  refine Classical.byContradiction fun hn => hne ?_
  exact TL.ext_tl (List.le_antisymm h2 (List.not_lt.mp hn))
theorem rows_seen {ps : List (Str × Int)} (h1 : ∀ p ∈ ps, nameL p.1.cps.toList = true ∧ numI p.2 = true) (h2 : (ps.map (·.1)).Pairwise fun a b => a.cps.toList < b.cps.toList) : isSeenD (.tuple (ps.map rowD)) = true := by
  show (List.range _).all _ = true
  rw [List.all_eq_true]
  intro i hi
  rw [List.mem_range, List.length_map] at hi
  have e1 : (ps.map rowD)[i]? = some (rowD ps[i]) := by rw [List.getElem?_map, List.getElem?_eq_getElem hi]; rfl
  unfold refAt
  rw [gD_at e1, row_ref (h1 _ (List.getElem_mem hi)).1 (h1 _ (List.getElem_mem hi)).2, Bool.true_and]
  by_cases h0 : i = 0
  · rw [decide_eq_true h0]
    rfl
  · have hi' : i - 1 < ps.length := by omega
    have e2 : (ps.map rowD)[i - 1]? = some (rowD ps[i - 1]) := by rw [List.getElem?_map, List.getElem?_eq_getElem hi']; rfl
    rw [gD_at e2, decide_eq_false h0, Bool.false_or]
    have h3 := (List.pairwise_iff_getElem.mp h2) (i - 1) i (by simp; omega) (by simp; omega) (by omega)
    rw [List.getElem_map, List.getElem_map] at h3
    exact decide_eq_true h3
end
section
/-! K45q: drawn parcels, odd things. -/
variable {G : Gv}
theorem p_tupleOf {K : PySem.W.Frag} {H : Hp} {Q : VK} {p : Addr} {ys : List V} (h : SqL K H p ys) (z : ∀ l, H l = none → Q (V.ref l) (upd H l (.tup ys))) : rTupleOf K [V.ref p] H Q := ⟨p, ys, rfl, .inl ⟨h, z⟩⟩
theorem dps_rows {K : PySem.W.Frag} {H : Hp} {vs : List V} {ps : List (Str × Int)} (h : vs.length = ps.length) (al : ∀ (i : Nat) (v : V) (p : Str × Int), vs[i]? = some v → ps[i]? = some p → Dp K H v (rowD p)) : DpAll K H vs (ps.map rowD) := by
  refine LO.DpAll.of_at (by simpa using h) fun i v d hv hd => ?_
  rw [List.getElem?_map] at hd
  cases e : ps[i]? with
  | none => rw [e] at hd; cases hd
  | some p =>
    rw [e] at hd
    cases hd
    exact al i v p hv e
theorem row_noL (p : Str × Int) : noL (rowD p) = true := rfl
theorem rows_noL (ps : List (Str × Int)) : noLs (ps.map rowD) = true := noLs_of fun x hx => by
  obtain ⟨p, _, rfl⟩ := List.mem_map.mp hx
  rfl
theorem rows_fine {ps : List (Str × Int)} (hl : ps.length ≤ 1000) (h : ∀ p ∈ ps, nameL p.1.cps.toList = true) : FineN 3 (.tuple (ps.map rowD)) := .tup (by rw [List.length_map]; omega) fun x hx => by
  obtain ⟨p, hp, rfl⟩ := List.mem_map.mp hx
  exact .tup (by simp) fun x hx => by
    simp at hx
    rcases hx with rfl | rfl
    · exact name_fine (h p hp)
    · exact .int _
def letD (au t : Str) : PyData := .tuple [.str au, .int 1, .int 1, .tuple [.tuple [.str au, .int 1]], .tuple [.str "found", .str t, .tuple []]]
theorem eqv_pair (au : Str) : PyData.eqv (.tuple [.str au, .int 1]) (.tuple [.str au, .int 1]) = true := by simp [PyData.eqv, PyData.eqvAll]
theorem letD_ok {au t : Str} (h1 : nameL au.cps.toList = true) (h2 : isTitleD (.str t) = true) : isLetterD (letD au t) = true := by
  have s1 : isSeenD (.tuple [.tuple [.str au, .int 1]]) = true := rows_seen (ps := [(au, 1)]) (fun p hp => by simp at hp; subst hp; exact ⟨h1, (by decide : numI 1 = true)⟩) (by simp)
  have b1 : isBodyD (.tuple [.str "found", .str t, .tuple []]) = true := by
    have e : getT partsL "found" = .int 2 := by decide +kernel
    show (decide (getT partsL "found" = .int (([PyData.str t, .tuple []].length : Nat) : Int)) && bodyK "found" [.str t, .tuple []]) = true
    unfold bodyK
    rw [if_pos rfl, e]
    show (true && (isTitleD (.str t) && true)) = true
    rw [h2]
    rfl
  have m1 : memTD (.tuple [.str au, .int 1]) (.tuple [.tuple [.str au, .int 1]]) = true := by
    show ([PyData.tuple [.str au, .int 1]].any fun z => PyData.eqv z (.tuple [.str au, .int 1])) = true
    rw [List.any_cons, eqv_pair]
    rfl
  have q1 : PyData.eqv (.tuple [.tuple [.str au, .int 1]]) (.tuple [.tuple [.str au, .int 1]]) = true := by simp [PyData.eqv, PyData.eqvAll]
  show (nameL au.cps.toList && (numI 1 && (numI 1 && (isSeenD _ && (isBodyD _ && (memTD (.tuple [.str au, .int 1]) _ && (!decide ((1 : Int) < 1) && (if PyData.eqv (fstD (.tuple [.str "found", .str t, .tuple []])) (.str "found") then decide ((1 : Int) = 1) && (PyData.eqv (.tuple [.tuple [.str au, .int 1]]) (.tuple [.tuple [.str au, .int 1]]) && !memTD (.str au) (.tuple [])) else decide ((1 : Int) < 1)))))))) ) = true
  rw [h1, s1, b1, m1, q1]
  rfl
theorem letD_fine {au t : Str} (h1 : nameL au.cps.toList = true) (h2 : t.length ≤ 60) (h3 : PyData.strOk t = true) : FineN 4 (letD au t) := by
  refine .tup (by simp) fun x hx => ?_
  simp at hx
  rcases hx with rfl | rfl | rfl | rfl
  · exact name_fine h1
  · exact .int _
  · refine .tup (by simp) fun x hx => ?_
    simp at hx
    subst hx
    refine .tup (by simp) fun x hx => ?_
    simp at hx
    rcases hx with rfl | rfl
    · exact name_fine h1
    · exact .int _
  · refine .tup (by simp) fun x hx => ?_
    simp at hx
    rcases hx with rfl | rfl | rfl
    · exact .str (by decide +kernel) (by decide +kernel)
    · exact .str (by omega) h3
    · exact .tup (by simp) fun x hx => by simp at hx
theorem rep_title (n : Nat) (h : n ≤ 60) : isTitleD (.str (repS ("t" : Str) n)) = true := by
  show (decide _ && plainL _) = true
  have e : ("t" : Str).length = 1 := by decide +kernel
  rw [repS_len, e, decide_eq_true (by omega), Bool.true_and]
  show List.all _ _ = true
  rw [List.all_eq_true]
  intro c hc
  rw [repS_toList] at hc
  obtain ⟨l, hl, hc⟩ := List.mem_flatten.mp hc
  rw [List.mem_replicate] at hl
  rw [hl.2] at hc
  have all : ∀ c ∈ ("t" : Str).cps.toList, decide (32 ≤ c ∧ c ≤ 126) = true := by decide +kernel
  exact all c hc
theorem pure__law_parcel (vs : List V) (H : Hp) (Q : VK) (E : XK) (h : sp__law_parcel G vs H Q E) : t__law_parcel G { nx := fun _ H' => Q .non H', rt := Q } (L2.start N__law_parcel vs) H := by
  obtain ⟨a, rfl, hA, k⟩ := h
  show tSeq _ _ _ [some (V.ref a), none, none, none, none, none, none] H
  walk_at "wp"
  refine nameF hA fun H1 z1 n1 x1 hA1 => ?_
  walk_at "wp"
  refine nameF hA1 fun H2 z2 n2 x2 hA2 => ?_
  have x2 := x1.trans x2
  clear x1 hA1
  walk_at "wp"
  refine ⟨by simp; decide, fun r hr => ?_⟩
  have x3 := x2.new (o := .tup [.str z1, .str z2]) hr
  have hA3 : Strm (upd H2 r (.tup [.str z1, .str z2])) a := hA2.ext (Ext.new1 hr)
  have hR : SqT G.K (upd H2 r (.tup [.str z1, .str z2])) r [.str z1, .str z2] := SqT.of upd_same
  have isr : isRoomD (.tuple [.str z1, .str z2]) = true := by
    show (nameL _ && nameL _) = true
    rw [n1, n2]; rfl
  have fr : FineN 3 (.tuple [.str z1, .str z2]) := .tup (by simp) fun x hx => by
    simp at hx
    rcases hx with rfl | rfl
    · exact name_fine n1
    · exact name_fine n2
  generalize upd H2 r (.tup [.str z1, .str z2]) = H3 at *
  walk_at "wp"
  refine drawF hA3 ⟨by decide, by decide⟩ fun H4 r4 h0 h1 x4 hA4 => ?_
  have hR4 := x4.sqT hR
  have x4 := x3.trans x4
  clear x3 hR hA3
  walk_at "wp"
  refine ifD (fun h2 => ?_) (fun h2 => ?_)
  · walk_at "wp"
    refine ⟨Nat.zero_le _, fun l hl => ?_⟩
    walk_at "wp"
    have x5 := x4.new (o := .lst []) hl
    refine drawF (hA4.ext (Ext.new1 hl)) ⟨by decide, by decide⟩ fun H6 r6 h60 h61 x6 hA6 => ?_
    have hal := hA4.ne hl
    have hl0 : H l = none := x4.gone hl (by simpa using hal)
    have hL6 : H6 l = some (.lst (([] : List Str).map V.str)) := x6.at upd_same (by simpa using hal)
    have hR6 := x6.sqT ((Fx.of (S := [a]) (Ext.new1 (o := .lst []) hl)).sqT hR4)
    have x6 := x5.trans x6
    walk_at "wp"
    refine l_rng1 (fun i σ' H' => (∃ v1 v2, σ' = [some (V.ref a), some (V.ref r), some (V.ref l), v1, v2, none, none]) ∧ (∃ ws : List Str, H' l = some (.lst (ws.map V.str)) ∧ ws.length ≤ i ∧ ws.Nodup ∧ ∀ z ∈ ws, nameL z.cps.toList = true) ∧ Fx [a] H H' ∧ Strm H' a ∧ SqT G.K H' r [.str z1, .str z2]) (by omega)
      ⟨⟨_, _, rfl⟩, ⟨[], hL6, Nat.le_refl _, List.nodup_nil, (fun _ h => nomatch h)⟩, x6, hA6, hR6⟩ ?_ ?_
    · rintro i σ' H' hi ⟨⟨v1, v2, rfl⟩, ⟨ws, hw, hwl, hnd, hn⟩, x7, hA7, hR7⟩
      walk_at "wp"
      refine nameF hA7 fun H8 z n8 x8 hA8 => ?_
      have hw8 := x8.at hw (by simpa using hal)
      have hR8 := x8.sqT hR7
      have x8 := x7.trans x8
      walk_at "wp"
      refine p_notInStrs ws (.inl (SqL.of hw8)) ?_
      walk_at "wp"
      refine ifD (fun h3 => ?_) (fun h3 => ?_)
      · walk_at "wp"
        refine p_append hw8 (by rw [List.length_map, sizeLine_eq]; omega) ?_
        walk_at "wp"
        have x9 : Fx [a] H (upd H8 l (.lst (ws.map V.str ++ [V.str z]))) := x8.putNew hl0
        refine ⟨⟨_, _, rfl⟩, ⟨ws ++ [z], by rw [upd_same]; simp, by simp; omega, ?_, fun y hy => ?_⟩, x9, ?_, ?_⟩
        · rw [List.nodup_append]
          exact ⟨hnd, by simp, fun x hx y hy => by rw [List.mem_singleton] at hy; rintro rfl; exact h3 (hy ▸ hx)⟩
        · rcases List.mem_append.mp hy with hy | hy
          · exact hn y hy
          · rw [List.mem_singleton] at hy
            rw [hy]; exact n8
        · obtain ⟨d, s, e⟩ := hA8
          exact ⟨d, s, by rw [upd_ne (Ne.symm hal)]; exact e⟩
        · exact ((Fx.refl [l] H8).put (by simp) (by rw [hw8]; trivial)).sqT hR8
      · walk_at "wp"
        exact ⟨⟨_, _, rfl⟩, ⟨ws, hw8, by omega, hnd, hn⟩, x8, hA8, hR8⟩
    · rintro σ' H' ⟨⟨v1, v2, rfl⟩, ⟨ws, hw, hwl, hnd, hn⟩, x7, hA7, hR7⟩
      walk_at "wp"
      refine ⟨l, ws, rfl, SqL.of hw, fun s hs => ?_⟩
      have hperm := List.mergeSort_perm ws leS
      have hn2 : ∀ z ∈ ws.mergeSort leS, nameL z.cps.toList = true := fun z hz => hn z (hperm.mem_iff.mp hz)
      have hlt : (ws.mergeSort leS).Pairwise fun a b => a.cps.toList < b.cps.toList := by
        have p1 := List.pairwise_mergeSort (le := leS) (fun _ _ _ => leS_trans) leS_total ws
        have p2 : (ws.mergeSort leS).Nodup := hperm.nodup_iff.mpr hnd
        exact (List.Pairwise.and p1 p2).imp fun h => leS_lt h.1 h.2
      have hlen : (ws.mergeSort leS).length ≤ 1000 := by rw [List.length_mergeSort]; omega
      generalize ws.mergeSort leS = ss at *
      have x8 := x7.new (o := .lst (ss.map V.str)) hs
      have hA8 : Strm (upd H' s (.lst (ss.map V.str))) a := hA7.ext (Ext.new1 hs)
      have hR8 := (Fx.of (S := [a]) (Ext.new1 (o := .lst (ss.map V.str)) hs)).sqT hR7
      have has := hA7.ne hs
      walk_at "wp"
      refine ⟨s, rfl, ⟨_, SqL.of upd_same⟩, fun D hD => ?_⟩
      have hDa := hA8.ne hD
      have hD0 : H D = none := x8.gone hD (by simpa using hDa)
      have hDs : s ≠ D := ne_of_none upd_same hD
      refine lc_list (xs := ss.map V.str) (fun i H' => Fx [a] H H' ∧ Strm H' a ∧ H' s = some (.lst (ss.map V.str)) ∧ SqT G.K H' r [.str z1, .str z2] ∧ ∃ (ps : List (Str × Int)) (us : List V), ps.map (·.1) = ss.take i ∧ (∀ p ∈ ps, numI p.2 = true) ∧ H' D = some (.lst us) ∧ DpAll G.K H' us (ps.map rowD))
        ⟨x8.putNew hD0, ?_, ?_, ?_, [], [], rfl, (fun _ h => nomatch h), upd_same, .nil⟩ (fun i H' _ p => SqL.of p.2.2.1) ?_ ?_
      · exact hA8.ext (Ext.new1 hD)
      · rw [upd_ne hDs]; exact upd_same
      · exact (Fx.of (S := [a]) (Ext.new1 hD)).sqT hR8
      · rintro i x H9 hx ⟨x9, hA9, hs9, hR9, ps, us, hps, hnum, hD9, hdp⟩
        rw [List.getElem?_map] at hx
        cases hz : ss[i]? with
        | none => rw [hz] at hx; cases hx
        | some z =>
        rw [hz] at hx
        cases hx
        walk_at "wp"
        refine ⟨rfl, ?_⟩
        walk_at "wp"
        refine drawF hA9 ⟨by decide, by decide⟩ fun H10 r10 h100 h101 x10 hA10 => ?_
        walk_at "wp"
        refine ⟨by simp; decide, fun t ht => ?_⟩
        have hD10 := x10.at hD9 (by simpa using hDa)
        have hs10 := x10.at hs9 (by simpa using has)
        have e11 : Ext H10 (upd H10 t (.tup [.str z, .int (1 + r10)])) := Ext.new1 ht
        have hpl : ps.length = i := by
          have := congrArg List.length hps
          rw [List.length_map, List.length_take] at this
          have := (List.getElem?_eq_some_iff.mp hz).1
          omega
        have hul := LO.DpAll.len hdp
        rw [List.length_map] at hul
        have hil := (List.getElem?_eq_some_iff.mp hz).1
        refine ⟨us, e11 _ _ hD10, by rw [hul, sizeLine_eq]; omega, ?_, ?_, ?_, ?_, ps ++ [(z, 1 + r10)], us ++ [V.ref t], ?_, ?_, upd_same, ?_⟩
        · exact (((x9.trans x10).ext e11).putNew hD0)
        · exact (hA10.ext e11).fx ((Fx.refl [D] _).put (by simp) (by rw [e11 _ _ hD10]; trivial)) (by simpa using Ne.symm hDa)
        · rw [upd_ne hDs]
          exact e11 _ _ hs10
        · exact ((Fx.refl [D] _).put (by simp) (by rw [e11 _ _ hD10]; trivial)).sqT (LO.SqT.ext (x10.sqT hR9) e11)
        · rw [List.map_append, hps, List.take_add_one, hz]
          rfl
        · intro p hp
          rcases List.mem_append.mp hp with hp | hp
          · exact hnum p hp
          · rw [List.mem_singleton] at hp
            subst hp
            have e9 : (10 : Int) ^ Int.toNat 9 = 1000000000 := by decide
            rw [e9] at h101
            exact decide_eq_true (by omega)
        · have y : Fx [D] H10 (upd (upd H10 t (.tup [.str z, .int (1 + r10)])) D (.lst (us ++ [V.ref t]))) := (Fx.of (S := [D]) e11).trans ((Fx.refl [D] _).put (by simp) (by rw [e11 _ _ hD10]; trivial))
          have o1 := LO.DpAll.fx y _ _ (rows_noL ps) (LO.DpAll.fx x10 _ _ (rows_noL ps) hdp)
          have o2 : Dp G.K (upd (upd H10 t (.tup [.str z, .int (1 + r10)])) D (.lst (us ++ [V.ref t]))) (.ref t) (rowD (z, 1 + r10)) := by
            refine .tup (SqT.of ?_) (.cons (.str _) (.cons (.int _) .nil))
            rw [upd_ne (fun e => by rw [e] at ht; rw [ht] at hD10; cases hD10)]
            exact upd_same
          have ap : ∀ (us : List V) (ds : List PyData), DpAll G.K (upd (upd H10 t (.tup [.str z, .int (1 + r10)])) D (.lst (us ++ [V.ref t]))) us ds → True := fun _ _ _ => trivial
          rw [List.map_append]
          have app : ∀ {K : PySem.W.Frag} {H : Hp} {us : List V} {ds : List PyData} {u : V} {d : PyData}, DpAll K H us ds → Dp K H u d → DpAll K H (us ++ [u]) (ds ++ [d]) := by
            intro K H us
            induction us with
            | nil => intro ds u d h h2; cases h; exact .cons h2 .nil
            | cons x us ih =>
              intro ds u d h h2
              cases h with
              | cons h1 h => exact .cons h1 (ih h h2)
          exact app o1 o2
      · rintro H9 ⟨x9, hA9, hs9, hR9, ps, us, hps, hnum, hD9, hdp⟩
        rw [List.length_map, List.take_length] at hps
        walk_at "wp"
        refine p_tupleOf (SqL.of hD9) fun w hw => ?_
        walk_at "wp"
        refine ⟨by simp; decide, fun p hp => ?_⟩
        walk_at "wp"
        have e10 := (Ext.new1 (o := .tup us) hw)
        have e11 := e10.new (o := .tup [.str "have", .ref r, .ref w]) hp
        have hnm : ∀ p ∈ ps, nameL p.1.cps.toList = true := fun p hp => hn2 _ (hps ▸ List.mem_map_of_mem hp)
        have hpl : ps.length ≤ 1000 := by
          have := congrArg List.length hps
          rw [List.length_map] at this
          omega
        refine k p (.tuple [.str "have", .tuple [.str z1, .str z2], .tuple (ps.map rowD)]) _ (x9.ext e11) (hA9.ext e11) ⟨"have", .ref r, .ref w, .tuple [.str z1, .str z2], .tuple (ps.map rowD), SqT.of upd_same, ?_, ?_, rfl, ?_, ?_, ?_⟩
        · exact .tup (LO.SqT.ext hR9 e11) (.cons (.str _) (.cons (.str _) .nil))
        · refine .tup (SqT.of ?_) (LO.DpAll.up hdp e11)
          rw [upd_ne (ne_of_none upd_same hp)]
          exact upd_same
        · show (isRoomD _ && (if ("have" : Str) = "have" then isSeenD (.tuple (ps.map rowD)) else _)) = true
          rw [if_pos rfl, isr, rows_seen (fun p hp => ⟨hnm p hp, hnum p hp⟩) (by rw [hps]; exact hlt)]
          rfl
        · refine (FineN.tup (n := 3) (by simp) fun x hx => ?_).up (by decide)
          simp at hx
          rcases hx with rfl | rfl | rfl
          · exact .str (by decide +kernel) (by decide +kernel)
          · exact fr
          · exact rows_fine hpl hnm
        · show (true && (true && (noL (.tuple (ps.map rowD)) && true))) = true
          have e : noL (.tuple (ps.map rowD)) = true := rows_noL ps
          rw [e]
          rfl
  · walk_at "wp"
    refine nameF hA4 fun H5 au n5 x5 hA5 => ?_
    have hR5 := x5.sqT hR4
    have x5 := x4.trans x5
    clear x4 hR4 hA4
    walk_at "wp"
    refine ⟨by simp; decide, fun t1 ht1 => ?_⟩
    walk_at "wp"
    refine ⟨by simp; decide, fun t2 ht2 => ?_⟩
    have e2 : Ext H5 (upd (upd H5 t1 (.tup [.str au, .int 1])) t2 (.tup [.ref t1])) := (Ext.new1 ht1).new ht2
    have d2 : Dp G.K (upd (upd H5 t1 (.tup [.str au, .int 1])) t2 (.tup [.ref t1])) (.ref t2) (.tuple [.tuple [.str au, .int 1]]) := by
      refine .tup (SqT.of upd_same) (.cons (.tup (SqT.of ?_) (.cons (.str _) (.cons (.int _) .nil))) .nil)
      rw [upd_ne (ne_of_none upd_same ht2)]
      exact upd_same
    have hR6 := LO.SqT.ext hR5 e2
    have hA6 := hA5.ext e2
    have x6 := x5.ext e2
    clear e2 x5 hR5 hA5
    generalize upd (upd H5 t1 (.tup [.str au, .int 1])) t2 (.tup [.ref t1]) = H6 at *
    walk_at "wp"
    refine drawF hA6 ⟨by decide, by decide⟩ fun H7 r7 h70 h71 x7 hA7 => ?_
    obtain ⟨n, rfl⟩ := Int.eq_ofNat_of_zero_le h70
    have et : ("t" : Str).length = 1 := by decide +kernel
    refine p_mulS n rfl (by omega) (by rw [et]; omega) ?_
    have d7 := LO.Dp.fx x7 _ _ rfl d2
    have hR7 := x7.sqT hR6
    have x7 := x6.trans x7
    clear x6 d2 hR6 hA6
    walk_at "wp"
    refine ⟨Nat.zero_le _, fun t3 ht3 => ?_⟩
    walk_at "wp"
    refine ⟨by simp; decide, fun t4 ht4 => ?_⟩
    walk_at "wp"
    refine ⟨by simp; decide, fun t5 ht5 => ?_⟩
    walk_at "wp"
    refine ⟨by simp; decide, fun t6 ht6 => ?_⟩
    have e3 := (((Ext.new1 (o := .tup []) ht3).new (o := .tup [.str "found", .str (repS "t" n), .ref t3]) ht4).new (o := .tup [.str au, .int 1, .int 1, .ref t2, .ref t4]) ht5).new (o := .tup [.ref t5]) ht6
    have q5 : (upd (upd (upd H7 t3 (.tup [])) t4 (.tup [.str "found", .str (repS "t" n), .ref t3])) t5 (.tup [.str au, .int 1, .int 1, .ref t2, .ref t4])) t5 = some (.tup [.str au, .int 1, .int 1, .ref t2, .ref t4]) := upd_same
    have q4 : (upd (upd (upd H7 t3 (.tup [])) t4 (.tup [.str "found", .str (repS "t" n), .ref t3])) t5 (.tup [.str au, .int 1, .int 1, .ref t2, .ref t4])) t4 = some (.tup [.str "found", .str (repS "t" n), .ref t3]) := by
      rw [upd_ne (ne_of_none upd_same ht5)]
      exact upd_same
    have q3 : (upd (upd (upd H7 t3 (.tup [])) t4 (.tup [.str "found", .str (repS "t" n), .ref t3])) t5 (.tup [.str au, .int 1, .int 1, .ref t2, .ref t4])) t3 = some (.tup []) := by
      have q0 : (upd (upd H7 t3 (.tup [])) t4 (.tup [.str "found", .str (repS "t" n), .ref t3])) t3 = some (.tup []) := by
        rw [upd_ne (ne_of_none upd_same ht4)]
        exact upd_same
      rw [upd_ne (ne_of_none q0 ht5)]
      exact q0
    have e6 := Ext.new1 (o := .tup [.ref t5]) ht6
    have dl : Dp G.K (upd (upd (upd (upd H7 t3 (.tup [])) t4 (.tup [.str "found", .str (repS "t" n), .ref t3])) t5 (.tup [.str au, .int 1, .int 1, .ref t2, .ref t4])) t6 (.tup [.ref t5])) (.ref t5) (letD au (repS "t" n)) :=
      .tup (SqT.of (e6 _ _ q5)) (.cons (.str _) (.cons (.int _) (.cons (.int _) (.cons (LO.Dp.up d7 e3) (.cons (.tup (SqT.of (e6 _ _ q4)) (.cons (.str _) (.cons (.str _) (.cons (.tup (SqT.of (e6 _ _ q3)) .nil) .nil)))) .nil)))))
    have h6 : SqT G.K (upd (upd (upd (upd H7 t3 (.tup [])) t4 (.tup [.str "found", .str (repS "t" n), .ref t3])) t5 (.tup [.str au, .int 1, .int 1, .ref t2, .ref t4])) t6 (.tup [.ref t5])) t6 [.ref t5] := SqT.of upd_same
    have hR8 := LO.SqT.ext hR7 e3
    have hA8 := hA7.ext e3
    have x8 := x7.ext e3
    clear e3 q5 q4 q3 e6 d7 x7 hR7 hA7 ht3 ht4 ht5 ht6
    generalize upd (upd (upd (upd H7 t3 (.tup [])) t4 (.tup [.str "found", .str (repS "t" n), .ref t3])) t5 (.tup [.str au, .int 1, .int 1, .ref t2, .ref t4])) t6 (.tup [.ref t5]) = H8 at *
    walk_at "wp"
    refine drawF hA8 ⟨by decide, by decide⟩ fun H9 r9 h90 h91 x9 hA9 => ?_
    have dl9 := LO.Dp.fx x9 _ _ rfl dl
    have h69 := x9.sqT h6
    have hR9 := x9.sqT hR8
    have x9 := x8.trans x9
    have fin : ∀ H10 w (j : Nat), Ext H9 H10 → j ≤ 3 → 1 ≤ j → SqT G.K H10 w (List.replicate j (V.ref t5)) → ∀ p, H10 p = none → Q (.ref p) (upd H10 p (.tup [.str "letters", .ref r, .ref w])) := fun H10 w j e10 hj hj1 hw p hp => by
      have e11 := e10.new (o := .tup [.str "letters", .ref r, .ref w]) hp
      have hl60 : (repS ("t" : Str) n).length ≤ 60 := by rw [repS_len, et]; omega
      refine k p (.tuple [.str "letters", .tuple [.str z1, .str z2], .tuple (List.replicate j (letD au (repS "t" n)))]) _ (x9.ext e11) (hA9.ext e11) ⟨"letters", .ref r, .ref w, .tuple [.str z1, .str z2], .tuple (List.replicate j (letD au (repS "t" n))), SqT.of upd_same, ?_, ?_, rfl, ?_, ?_, ?_⟩
      · exact .tup (LO.SqT.ext hR9 e11) (.cons (.str _) (.cons (.str _) .nil))
      · refine .tup (LO.SqT.ext hw (Ext.new1 hp)) (LO.DpAll.of_at (by simp) fun i v d hv hd => ?_)
        have hv := List.eq_of_mem_replicate (List.mem_of_getElem? hv)
        have hd := List.eq_of_mem_replicate (List.mem_of_getElem? hd)
        subst hv hd
        exact LO.Dp.up dl9 e11
      · show (isRoomD _ && (if ("letters" : Str) = "have" then _ else decide (("letters" : Str) = "letters") && (decide (0 < (List.replicate j (letD au (repS "t" n))).length) && (List.replicate j (letD au (repS "t" n))).all isLetterD))) = true
        rw [if_neg (by decide +kernel), isr, decide_eq_true rfl, List.length_replicate, decide_eq_true (by omega)]
        rw [Bool.true_and, Bool.true_and, Bool.true_and, List.all_eq_true]
        intro x hx
        rw [List.eq_of_mem_replicate hx]
        exact letD_ok n5 (rep_title n (by omega))
      · refine (FineN.tup (n := 5) (by simp) fun x hx => ?_).up (by decide)
        simp at hx
        rcases hx with rfl | rfl | rfl
        · exact .str (by decide +kernel) (by decide +kernel)
        · exact fr.up (by decide)
        · refine .tup (by simp; omega) fun x hx => ?_
          rw [List.eq_of_mem_replicate hx]
          exact letD_fine n5 hl60 (rep_ok n)
      · show (true && (true && (noLs (List.replicate j (letD au (repS "t" n))) && true))) = true
        rw [noLs_of (fun x hx => by rw [List.eq_of_mem_replicate hx]; rfl)]
        rfl
    walk_at "wp"
    refine ⟨t6, 1 + r9, [.ref t5], rfl, rfl, h69, by simp, by omega, by omega, by simp, fun h1 => ?_, fun h1 w hw => ?_⟩
    · walk_at "wp"
      exact ⟨by simp; decide, fun p hp => fin H9 t6 1 (Ext.refl _) (by omega) (by omega) h69 p hp⟩
    · obtain ⟨j, hj⟩ := Int.eq_ofNat_of_zero_le (show 0 ≤ 1 + r9 by omega)
      rw [hj]
      have ej : (List.replicate (((j : Nat) : Int)).toNat [V.ref t5]).flatten = List.replicate j (V.ref t5) := by
        rw [Int.toNat_natCast]
        clear fin hj
        induction j with
        | zero => rfl
        | succ j ih => rw [List.replicate_succ, List.flatten_cons, ih]; rfl
      rw [ej]
      walk_at "wp"
      exact ⟨by simp; decide, fun p hp => fin _ w j (Ext.new1 hw) (by omega) (by omega) (SqT.of upd_same) p hp⟩
end
section
/-! K45t: odd things; the post. -/
variable {G : Gv}
theorem str_fine (s : Str) {n : Nat} (h : (decide (s.length ≤ 100000) && PyData.strOk s) = true) : FineN n (.str s) := ⟨h, Nat.zero_le _⟩
theorem pure__law_odd (vs : List V) (H : Hp) (Q : VK) (E : XK) (h : sp__law_odd G vs H Q E) : t__law_odd G { nx := fun _ H' => Q .non H', rt := Q } (L2.start N__law_odd vs) H := by
  obtain ⟨a, p, d, rfl, hA, ⟨kd, r, w, dr, dw, hp, hr, hw, rfl, hpar, hfi, hno⟩, k⟩ := h
  show tSeq _ _ _ [some (V.ref a), some (V.ref p), none, none, none] H
  have hroom : isRoomD dr = true := (Bool.and_eq_true_iff.mp (show (isRoomD dr && _) = true from hpar)).1
  have hnr : noL dr = true := by
    have e : (true && (noL dr && (noL dw && true))) = true := hno
    rw [Bool.true_and, Bool.and_eq_true_iff] at e
    exact e.1
  have hfr : Fine dr := Fine.mem (xs := [.str kd, dr, dw]) (hfi.fine) (by simp)
  have hfk : Fine (.str kd) := Fine.mem (xs := [.str kd, dr, dw]) (hfi.fine) (by simp)
  walk_at "wp"
  refine ⟨by simp; decide, fun t1 ht1 => ?_⟩
  walk_at "wp"
  refine ⟨by simp; decide, fun l1 hl1 => ?_⟩
  have e1 : Ext H (upd (upd H t1 (.tup [.str "anna"])) l1 (.lst [.non, .int 7, .str "", .str "Anna", .ref t1, .str "a b", .str "abcdefghijklm", .bl true])) := (Ext.new1 ht1).new hl1
  have q1 : upd (upd H t1 (.tup [.str "anna"])) l1 (.lst [.non, .int 7, .str "", .str "Anna", .ref t1, .str "a b", .str "abcdefghijklm", .bl true]) l1 = some (.lst [.non, .int 7, .str "", .str "Anna", .ref t1, .str "a b", .str "abcdefghijklm", .bl true]) := upd_same
  have g1 : Dp G.K (upd (upd H t1 (.tup [.str "anna"])) l1 (.lst [.non, .int 7, .str "", .str "Anna", .ref t1, .str "a b", .str "abcdefghijklm", .bl true])) (.ref t1) (.tuple [.str "anna"]) :=
    .tup (SqT.of (by rw [upd_ne (ne_of_none upd_same hl1)]; exact upd_same)) (.cons (.str _) .nil)
  have hA1 := hA.ext e1
  have hp1 := LO.SqT.ext hp e1
  have hr1 := LO.Dp.up hr e1
  have hw1 := LO.Dp.up hw e1
  have x1 : Fx [a] H _ := Fx.of e1
  clear e1 hp hr hw
  generalize upd (upd H t1 (.tup [.str "anna"])) l1 (.lst [.non, .int 7, .str "", .str "Anna", .ref t1, .str "a b", .str "abcdefghijklm", .bl true]) = H1 at *
  walk_at "wp"
  refine ⟨p, _, rfl, hp1, (by show ¬ (HT.sIx 3 0 Option.none = 0 ∧ HT.sIx 3 3 (some 2) = 3); decide), fun t2 ht2 => ?_⟩
  have ec : cutV [V.str kd, r, w] Option.none (some 2) = [V.str kd, r] := rfl
  rw [ec]
  walk_at "wp"
  refine ⟨p, [V.str kd, r, w], rfl, .inr (LO.SqT.ext hp1 (Ext.new1 ht2)), fun l2 hl2 => ?_⟩
  walk_at "wp"
  refine ⟨by simp; decide, fun t3 ht3 => ?_⟩
  walk_at "wp"
  refine ⟨Nat.zero_le _, fun t4 ht4 => ?_⟩
  walk_at "wp"
  refine ⟨by simp; decide, fun t5 ht5 => ?_⟩
  walk_at "wp"
  refine ⟨Nat.zero_le _, fun t6 ht6 => ?_⟩
  walk_at "wp"
  refine ⟨by simp; decide, fun l3 hl3 => ?_⟩
  have e1 := (((((Ext.new1 (o := .tup [.str kd, r]) ht2).new (o := .lst [.str kd, r, w]) hl2).new (o := .tup [.str "have", r, .non]) ht3).new (o := .tup []) ht4).new (o := .tup [.str "letters", r, .ref t4]) ht5).new (o := .tup []) ht6
  have e2 := e1.new (o := .lst [.non, .ref t2, .ref l2, .str kd, .ref t3, .ref t5, .ref t6, .int 7]) hl3
  have k6 := Ext.new1 (o := .lst [.non, .ref t2, .ref l2, .str kd, .ref t3, .ref t5, .ref t6, .int 7]) hl3
  have k5 := (Ext.new1 (o := .tup []) ht6).trans k6
  have k4 := (Ext.new1 (o := .tup [.str "letters", r, .ref t4]) ht5).trans k5
  have k3 := (Ext.new1 (o := .tup []) ht4).trans k4
  have k2 := (Ext.new1 (o := .tup [.str "have", r, .non]) ht3).trans k3
  have k1 := (Ext.new1 (o := .lst [.str kd, r, w]) hl2).trans k2
  have y2 := k1 t2 _ upd_same
  have y3 := k2 l2 _ upd_same
  have y4 := k3 t3 _ upd_same
  have y5 := k4 t4 _ upd_same
  have y6 := k5 t5 _ upd_same
  have y7 := k6 t6 _ upd_same
  have y8 : (upd (upd (upd (upd (upd (upd (upd H1 t2 (.tup [.str kd, r])) l2 (.lst [.str kd, r, w])) t3 (.tup [.str "have", r, .non])) t4 (.tup [])) t5 (.tup [.str "letters", r, .ref t4])) t6 (.tup [])) l3 (.lst [.non, .ref t2, .ref l2, .str kd, .ref t3, .ref t5, .ref t6, .int 7])) l3 = some (.lst [.non, .ref t2, .ref l2, .str kd, .ref t3, .ref t5, .ref t6, .int 7]) := upd_same
  have hA2 := hA1.ext e2
  have hr2 := LO.Dp.up hr1 e2
  have hw2 := LO.Dp.up hw1 e2
  have q2 := e2 _ _ q1
  have g2 := LO.Dp.up g1 e2
  have x2 := x1.ext e2
  clear e1 e2 k1 k2 k3 k4 k5 k6 hr1 hw1 q1 g1 x1 hA1 hp1 ht2 ht3 ht4 ht5 ht6 hl2 hl3 hl1
  generalize (upd (upd (upd (upd (upd (upd (upd H1 t2 (.tup [.str kd, r])) l2 (.lst [.str kd, r, w])) t3 (.tup [.str "have", r, .non])) t4 (.tup [])) t5 (.tup [.str "letters", r, .ref t4])) t6 (.tup [])) l3 (.lst [.non, .ref t2, .ref l2, .str kd, .ref t3, .ref t5, .ref t6, .int 7])) = H2 at *
  have nl1 : l1 ≠ a := fun e => by obtain ⟨d, s, q⟩ := hA2; rw [← e, q2] at q; cases q
  have nl2 : l2 ≠ a := fun e => by obtain ⟨d, s, q⟩ := hA2; rw [← e, y3] at q; cases q
  have nl3 : l3 ≠ a := fun e => by obtain ⟨d, s, q⟩ := hA2; rw [← e, y8] at q; cases q
  walk_at "wp"
  refine drawF hA2 ⟨by decide, by decide⟩ fun H3 r3 h30 h31 x3 hA3 => ?_
  obtain ⟨v3, hv3, hm3⟩ := val_at (l := [V.non, V.int 7, V.str "", V.str "Anna", V.ref t1, V.str "a b", V.str "abcdefghijklm", V.bl true]) h30 (by simpa using h31)
  refine p_ixL (SqL.of (x3.at q2 (by simpa using nl1))) hv3 ?_
  walk_at "wp"
  refine drawF hA3 ⟨by decide, by decide⟩ fun H4 r4 h40 h41 x4 hA4 => ?_
  have x34 := x3.trans x4
  obtain ⟨v4, hv4, hm4⟩ := val_at (l := [V.non, V.ref t2, V.ref l2, V.str kd, V.ref t3, V.ref t5, V.ref t6, V.int 7]) h40 (by simpa using h41)
  refine p_ixL (SqL.of (x34.at y8 (by simpa using nl3))) hv4 ?_
  walk_at "wp"
  refine ⟨by simp; decide, fun l hl => ?_⟩
  have e5 := Ext.new1 (o := .lst [v3, v4]) hl
  have x5 := x34.ext e5
  have D3 : ∃ dx, (∀ H6, Fx [a] (upd H4 l (.lst [v3, v4])) H6 → Dp G.K H6 v3 dx) ∧ Fine dx ∧ isNameD dx = false := by
    have hA' : Fine (.tuple [.str "anna"]) := (FineN.tup (n := 0) (by simp) fun x hx => by simp at hx; subst hx; exact str_fine _ (by decide +kernel)).fine
    simp only [List.mem_cons, List.not_mem_nil, or_false] at hm3
    rcases hm3 with rfl | rfl | rfl | rfl | rfl | rfl | rfl | rfl
    · exact ⟨_, fun _ _ => .non, .none, rfl⟩
    · exact ⟨_, fun _ _ => .int _, .int _, rfl⟩
    · exact ⟨_, fun _ _ => .str _, (str_fine (n := 0) _ (by decide +kernel)).fine, by decide +kernel⟩
    · exact ⟨_, fun _ _ => .str _, (str_fine (n := 0) _ (by decide +kernel)).fine, by decide +kernel⟩
    · exact ⟨_, fun H6 y => LO.Dp.fx (x5.trans y) _ _ rfl g2, hA', rfl⟩
    · exact ⟨_, fun _ _ => .str _, (str_fine (n := 0) _ (by decide +kernel)).fine, by decide +kernel⟩
    · exact ⟨_, fun _ _ => .str _, (str_fine (n := 0) _ (by decide +kernel)).fine, by decide +kernel⟩
    · exact ⟨_, fun _ _ => .bl _, .bool _, rfl⟩
  have hr5 : ∀ H6, Fx [a] (upd H4 l (.lst [v3, v4])) H6 → Dp G.K H6 r dr := fun H6 y => LO.Dp.fx (x5.trans y) _ _ hnr hr2
  have fr10 : FineN 10 dr := ⟨hfr.ok, by
    have h3 : PyData.depthAll [.str kd, dr, dw] + 1 ≤ 10 := hfi.dp
    have := depth_mem (xs := [.str kd, dr, dw]) (x := dr) (by simp)
    omega⟩
  have fw10 : FineN 10 dw := ⟨(Fine.mem (xs := [.str kd, dr, dw]) hfi.fine (by simp)).ok, by
    have h3 : PyData.depthAll [.str kd, dr, dw] + 1 ≤ 10 := hfi.dp
    have := depth_mem (xs := [.str kd, dr, dw]) (x := dw) (by simp)
    omega⟩
  have fk : FineN 10 (.str kd) := ⟨hfk.ok, Nat.zero_le _⟩
  have hnw : noL dw = true := by
    have e : (true && (noL dr && (noL dw && true))) = true := hno
    rw [Bool.true_and, Bool.and_eq_true_iff, Bool.and_eq_true_iff] at e
    exact e.2.1
  have hw5 : ∀ H6, Fx [a] (upd H4 l (.lst [v3, v4])) H6 → Dp G.K H6 w dw := fun H6 y => LO.Dp.fx (x5.trans y) _ _ hnw hw2
  have D4 : ∃ dy, (∀ H6, Fx [a] (upd H4 l (.lst [v3, v4])) H6 → Dp G.K H6 v4 dy) ∧ FineN 19 dy ∧ isParcelD dy = false := by
    simp only [List.mem_cons, List.not_mem_nil, or_false] at hm4
    rcases hm4 with rfl | rfl | rfl | rfl | rfl | rfl | rfl | rfl
    · exact ⟨_, fun _ _ => .non, .non, rfl⟩
    · exact ⟨.tuple [.str kd, dr], fun H6 y => .tup (SqT.of ((x5.trans y).tup _ _ y2)) (.cons (.str _) (.cons (hr5 _ y) .nil)), (FineN.tup (n := 10) (by simp) fun x hx => by simp at hx; rcases hx with rfl | rfl <;> first | assumption | exact str_fine _ (by decide +kernel) | exact .non | exact .tup (by simp) fun _ h => by simp at h).up (by decide), rfl⟩
    · refine ⟨.list [.str kd, dr, dw], fun H6 y => .lst (SqL.of ((x5.trans y).at y3 (by simpa using nl2))) (.cons (.str _) (.cons (hr5 _ y) (.cons (hw5 _ y) .nil))), ?_, rfl⟩
      have f := (FineN.tup (n := 10) (xs := [.str kd, dr, dw]) (by simp) fun x hx => by simp at hx; rcases hx with rfl | rfl | rfl <;> first | assumption | exact str_fine _ (by decide +kernel) | exact .non | exact .tup (by simp) fun _ h => by simp at h).up (show 10 + 1 ≤ 19 by decide)
      exact ⟨f.ok, f.dp⟩
    · exact ⟨.str kd, fun _ _ => .str _, fk.up (by decide), rfl⟩
    · refine ⟨.tuple [.str "have", dr, .none], fun H6 y => .tup (SqT.of ((x5.trans y).tup _ _ y4)) (.cons (.str _) (.cons (hr5 _ y) (.cons .non .nil))), (FineN.tup (n := 10) (by simp) fun x hx => by simp at hx; rcases hx with rfl | rfl | rfl <;> first | assumption | exact str_fine _ (by decide +kernel) | exact .non | exact .tup (by simp) fun _ h => by simp at h).up (by decide), ?_⟩
      show (isRoomD dr && (if ("have" : Str) = "have" then isSeenD .none else _)) = false
      rw [if_pos rfl]
      exact Bool.and_false _
    · refine ⟨.tuple [.str "letters", dr, .tuple []], fun H6 y => .tup (SqT.of ((x5.trans y).tup _ _ y6)) (.cons (.str _) (.cons (hr5 _ y) (.cons (.tup (SqT.of ((x5.trans y).tup _ _ y5)) .nil) .nil))), (FineN.tup (n := 10) (by simp) fun x hx => by simp at hx; rcases hx with rfl | rfl | rfl <;> first | assumption | exact str_fine _ (by decide +kernel) | exact .non | exact .tup (by simp) fun _ h => by simp at h).up (by decide), ?_⟩
      show (isRoomD dr && (if ("letters" : Str) = "have" then isSeenD (.tuple []) else decide (("letters" : Str) = "letters") && (decide (0 < ([] : List PyData).length) && true))) = false
      rw [if_neg (by decide +kernel)]
      simp
    · exact ⟨.tuple [], fun H6 y => .tup (SqT.of ((x5.trans y).tup _ _ y7)) .nil, .tup (n := 18) (by simp) fun _ h => by simp at h, rfl⟩
    · exact ⟨_, fun _ _ => .int _, .int _, rfl⟩
  obtain ⟨dx, hdx, fdx, ndx⟩ := D3
  obtain ⟨dy, hdy, fdy, ndy⟩ := D4
  walk_at "wp"
  exact k l v3 v4 dx dy _ (x2.trans x5) (hA4.ext e5) upd_same hdx hdy fdx fdy ndx ndy
theorem Par.len {K : PySem.W.Frag} {H : Hp} {kvs : List (Key × V)} {m : List (Nat × Snt)} (h : Par K H kvs m) : kvs.length = m.length := by
  have := congrArg List.length h.1
  simpa using this
theorem par_look {K : PySem.W.Frag} {H : Hp} (i : Int) : ∀ {kvs : List (Key × V)} {m : List (Nat × Snt)}, Par K H kvs m → (∀ s, look m i = some s → ∃ v, valV kvs (.inl i) = some v ∧ Dp K H v s.data) ∧ (look m i = none → valV kvs (.inl i) = none)
  | [], [], _ => ⟨(fun s h => by cases h), fun _ => rfl⟩
  | [], _ :: _, h => by cases h.1
  | _ :: _, [], h => by cases h.1
  | (k, v) :: kvs, (j, s0) :: m, ⟨h1, h2⟩ => by
    rw [List.map_cons, List.map_cons] at h1
    injection h1 with h3 h4
    rw [List.map_cons, List.map_cons] at h2
    cases h2 with
    | cons d h2 =>
      have ih := par_look i (show Par K H kvs m from ⟨h4, h2⟩)
      dsimp only at h3
      subst h3
      by_cases e : (j : Int) = i
      · subst e
        have e1 : valV ((Sum.inl (j : Int), v) :: kvs) (Sum.inl (j : Int)) = some v := valV_pos rfl
        have e2 : look ((j, s0) :: m) (j : Int) = some s0 := by
          unfold look
          rw [List.find?_cons, decide_eq_true rfl]
          rfl
        rw [e1, e2]
        exact ⟨(fun s h => by cases h; exact ⟨v, rfl, d⟩), fun h => by cases h⟩
      · have e1 : valV ((Sum.inl (j : Int), v) :: kvs) (Sum.inl i) = valV kvs (.inl i) := valV_neg (fun z => e (Sum.inl.inj z))
        have e2 : look ((j, s0) :: m) i = look m i := by
          unfold look
          rw [List.find?_cons, decide_eq_false e]
        rw [e1, e2]
        exact ih
theorem par_drop {K : PySem.W.Frag} {H : Hp} (i : Int) : ∀ {kvs : List (Key × V)} {m : List (Nat × Snt)}, Par K H kvs m → Par K H (dropK kvs (.inl i)) (drop m i)
  | [], [], _ => ⟨rfl, .nil⟩
  | [], _ :: _, h => by cases h.1
  | _ :: _, [], h => by cases h.1
  | (k, v) :: kvs, (j, s0) :: m, ⟨h1, h2⟩ => by
    rw [List.map_cons, List.map_cons] at h1
    injection h1 with h3 h4
    rw [List.map_cons, List.map_cons] at h2
    cases h2 with
    | cons d h2 =>
      obtain ⟨i1, i2⟩ := par_drop i (show Par K H kvs m from ⟨h4, h2⟩)
      dsimp only at h3
      subst h3
      by_cases e : (j : Int) = i
      · have e1 : dropK ((Sum.inl (j : Int), v) :: kvs) (Sum.inl i) = dropK kvs (.inl i) := by
          unfold dropK
          rw [List.filter_cons, if_neg (by simp [e])]
        have e2 : drop ((j, s0) :: m) i = drop m i := by
          unfold drop
          rw [List.filter_cons, if_neg (by simp [e])]
        rw [e1, e2]
        exact ⟨i1, i2⟩
      · have e1 : dropK ((Sum.inl (j : Int), v) :: kvs) (Sum.inl i) = (Sum.inl (j : Int), v) :: dropK kvs (.inl i) := by
          unfold dropK
          rw [List.filter_cons, if_pos (by simp [e])]
        have e2 : drop ((j, s0) :: m) i = (j, s0) :: drop m i := by
          unfold drop
          rw [List.filter_cons, if_pos (by simp [e])]
        rw [e1, e2]
        exact ⟨by rw [List.map_cons, List.map_cons, i1], by rw [List.map_cons, List.map_cons]; exact .cons d i2⟩
theorem dps_app {K : PySem.W.Frag} {H : Hp} : ∀ {us : List V} {ds : List PyData} {u : V} {d : PyData}, DpAll K H us ds → Dp K H u d → DpAll K H (us ++ [u]) (ds ++ [d])
  | [], [], _, _, _, h2 => .cons h2 .nil
  | _ :: _, _ :: _, _, _, .cons h1 h, h2 => .cons h1 (dps_app h h2)
theorem look_none {m : List (Nat × Snt)} {i : Int} (h : ∀ p ∈ m, (p.1 : Int) ≠ i) : look m i = none := by
  unfold look
  rw [List.find?_eq_none.mpr fun p hp => by simpa using h p hp]
  rfl
theorem par_put {K : PySem.W.Frag} {H : Hp} {kvs : List (Key × V)} {m : List (Nat × Snt)} {j : Nat} {v : V} {s : Snt} (h : Par K H kvs m) (hn : ∀ p ∈ m, p.1 ≠ j) (hv : Dp K H v s.data) : Par K H (putK kvs (.inl (j : Int)) v) (m ++ [(j, s)]) := by
  have e : (kvs.any fun kv => decide (kv.1 = (Sum.inl (j : Int) : Key))) = false := by
    rw [List.any_eq_false]
    intro kv hkv
    have hm : kv.1 ∈ kvs.map (·.1) := List.mem_map_of_mem hkv
    rw [h.1] at hm
    obtain ⟨p, hp, e⟩ := List.mem_map.mp hm
    simp only [decide_eq_true_eq]
    intro z
    rw [← e] at z
    exact hn p hp (by have := Sum.inl.inj z; omega)
  unfold putK
  rw [e, if_neg Bool.false_ne_true]
  exact ⟨by rw [List.map_append, List.map_append, h.1]; rfl, by rw [List.map_append, List.map_append]; exact dps_app h.2 hv⟩
theorem Par.fx {S : List Addr} {K : PySem.W.Frag} {H H' : Hp} {kvs : List (Key × V)} {m : List (Nat × Snt)} (h : Par K H kvs m) (hm : ∀ p ∈ m, noL p.2.data = true) (x : Fx S H H') : Par K H' kvs m :=
  ⟨h.1, LO.DpAll.fx x _ _ (noLs_of fun d hd => by obtain ⟨p, hp, rfl⟩ := List.mem_map.mp hd; exact hm p hp) h.2⟩
theorem PostAt.fx {S : List Addr} {H H' : Hp} {p d : Addr} {n : Nat} {m : List (Nat × Snt)} (h : PostAt G H p d n m) (hk : Kept n m) (x : Fx S H H') (h1 : p ∉ S) (h2 : d ∉ S) : PostAt G H' p d n m :=
  let ⟨dx, kvs, a, b, c⟩ := h
  ⟨dx, kvs, x.at a h1, x.at b h2, LO.Par.fx c (fun p hp => (hk.ok p hp).nol) x⟩
theorem ModAt.fx {S : List Addr} {H H' : Hp} {p d : Addr} {n : Nat} {m : List (Nat × Snt)} (h : ModAt G H p d n m) (hk : Kept n m) (x : Fx S H H') (h1 : p ∉ S) (h2 : d ∉ S) : ModAt G H' p d n m :=
  let ⟨kvs, a, b, c⟩ := h
  ⟨kvs, x.at a h1, x.at b h2, LO.Par.fx c (fun p hp => (hk.ok p hp).nol) x⟩
theorem Kept.put {n : Nat} {m : List (Nat × Snt)} {s : Snt} (h : Kept n m) (hn : n < 60) (hs : SntOk s) : Kept (n + 1) (m ++ [(n + 1, s)]) := by
  refine ⟨hn, fun p hp => ?_, ?_, fun p hp => ?_, ?_⟩
  · rcases List.mem_append.mp hp with hp | hp
    · have := h.keys p hp
      omega
    · rw [List.mem_singleton] at hp
      subst hp
      exact ⟨by omega, Nat.le_refl _⟩
  · rw [List.map_append, List.nodup_append]
    refine ⟨h.nd, by simp, fun a ha b hb => ?_⟩
    simp at hb
    obtain ⟨p, hp, rfl⟩ := List.mem_map.mp ha
    have := h.keys p hp
    omega
  · rcases List.mem_append.mp hp with hp | hp
    · exact h.ok p hp
    · rw [List.mem_singleton] at hp
      subst hp
      exact hs
  · rw [List.length_append, List.length_singleton]
    have := h.len
    omega
theorem Kept.drop {n : Nat} {m : List (Nat × Snt)} (h : Kept n m) (i : Int) : Kept n (drop m i) :=
  ⟨h.le, fun p hp => h.keys p (List.mem_filter.mp hp).1, h.nd.sublist (List.Sublist.map _ List.filter_sublist), fun p hp => h.ok p (List.mem_filter.mp hp).1, Nat.le_trans (List.length_filter_le _ _) h.len⟩
end
section
/-! K45u: the post's methods, what the law asks of it. -/
variable {G : Gv}
theorem ps_ne : (Str.ofString "_parcels" == Str.ofString "sent") = false := by decide +kernel
theorem name_strP {K : PySem.W.Frag} {H : Hp} {v : V} {d : PyData} (h : Dp K H v d) (e : isNameD d = true) : ∃ z, v = V.str z ∧ d = .str z ∧ nameL z.cps.toList = true := by
  cases h with
  | str z => exact ⟨z, rfl, rfl, e⟩
  | _ => cases e
theorem fld_sent {n d : V} : List.lookup ("sent" : Str) [(("sent" : Str), n), ("_parcels", d)] = some n := by simp [List.lookup]
theorem fld_parc {n d : V} : List.lookup ("_parcels" : Str) [(("sent" : Str), n), ("_parcels", d)] = some d := by simp [List.lookup, ps_ne]
theorem put_sent {n n' d : V} : putF ("sent" : Str) n' [(("sent" : Str), n), (("_parcels" : Str), d)] = [(("sent" : Str), n'), (("_parcels" : Str), d)] := by simp [putF]
theorem pure_Post___init__ (vs : List V) (H : Hp) (Q : VK) (E : XK) (h : sp_Post___init__ G vs H Q E) : t_Post___init__ G { nx := fun _ H' => Q .non H', rt := Q } (L2.start N_Post___init__ vs) H := by
  obtain ⟨p, dx, rfl, hp, k⟩ := h
  show tSeq _ _ _ [some (V.ref p)] H
  walk_at "wp"
  refine ⟨p, dx, _, rfl, hp, by decide, ?_⟩
  walk_at "wp"
  intro d hd
  have hne : d ≠ p := fun e => by rw [e, upd_same] at hd; cases hd
  walk_at "wp"
  refine ⟨p, dx, _, rfl, by rw [upd_ne (Ne.symm hne)]; exact upd_same, by simp [putF], ?_⟩
  have hd0 : H d = none := by rw [upd_ne hne] at hd; exact hd
  exact k d hd0 hne
theorem pure_Post_parcel (vs : List V) (H : Hp) (Q : VK) (E : XK) (h : sp_Post_parcel G vs H Q E) : t_Post_parcel G (fun cls d _ H => E cls d H) { nx := fun _ H' => Q .non H', rt := Q } (L2.start N_Post_parcel vs) H := by
  obtain ⟨p, d, n, m, i, rfl, ⟨dx, kvs, hp, hd, hpar⟩, k1, k2⟩ := h
  show tSeq _ _ _ [some (V.ref p), some (V.int i)] H
  obtain ⟨l1, l2⟩ := par_look i hpar
  walk_at "wp"
  refine ⟨p, dx, _, _, rfl, hp, fld_parc, d, valV kvs (.inl i), rfl, DGet.k (k := Sum.inl i) hd, ?_⟩
  cases e : look m i with
  | none =>
    rw [l2 e]
    refine w_blE (k' := true) rfl ?_
    walk_at "wp"
    exact k2 e
  | some s =>
    obtain ⟨v, hv, dv⟩ := l1 s e
    rw [hv]
    refine w_blE (k' := false) rfl ?_
    walk_at "wp"
    refine ⟨p, dx, _, _, rfl, hp, fld_parc, ?_⟩
    walk_at "wp"
    refine ⟨d, v, rfl, ?_, k1 s v e dv⟩
    rw [← hv]
    exact DGet.k (k := Sum.inl i) hd
theorem pure_Post_lose (vs : List V) (H : Hp) (Q : VK) (E : XK) (h : sp_Post_lose G vs H Q E) : t_Post_lose G (fun cls d _ H => E cls d H) { nx := fun _ H' => Q .non H', rt := Q } (L2.start N_Post_lose vs) H := by
  obtain ⟨p, d, n, m, i, rfl, ⟨dx, kvs, hp, hd, hpar⟩, hk, k1, k2⟩ := h
  show tSeq _ _ _ [some (V.ref p), some (V.int i)] H
  obtain ⟨l1, l2⟩ := par_look i hpar
  walk_at "wp"
  refine ⟨p, dx, _, _, rfl, hp, fld_parc, d, valV kvs (.inl i), rfl, DGet.k (k := Sum.inl i) hd, ?_⟩
  cases e : look m i with
  | none =>
    rw [l2 e]
    refine w_blE (k' := true) rfl ?_
    walk_at "wp"
    exact k2 e
  | some s =>
    obtain ⟨v, hv, dv⟩ := l1 s e
    rw [hv]
    refine w_blE (k' := false) rfl ?_
    walk_at "wp"
    refine ⟨p, dx, _, _, rfl, hp, fld_parc, ?_⟩
    walk_at "wp"
    refine ⟨d, kvs, .inl i, rfl, hd, rfl, by rw [hv]; rfl, ?_⟩
    have x : Fx [d] H (upd H d (.dK (dropK kvs (.inl i)))) := (Fx.refl _ _).put (by simp) (by rw [hd]; trivial)
    refine k1 s _ e x ⟨dx, _, x.at hp (by simp; exact fun e => by rw [e, hd] at hp; cases hp), upd_same, ?_⟩ (hk.drop i)
    exact LO.Par.fx (par_drop i hpar) (fun q hq => (hk.ok q (List.mem_filter.mp hq).1).nol) x
theorem pure_Post_numbers (vs : List V) (H : Hp) (Q : VK) (E : XK) (h : sp_Post_numbers G vs H Q E) : t_Post_numbers G { nx := fun _ H' => Q .non H', rt := Q } (L2.start N_Post_numbers vs) H := by
  obtain ⟨p, d, n, m, rfl, ⟨dx, kvs, hp, hd, hpar⟩, hk, ha, k⟩ := h
  show tRet _ _ [some (V.ref p)] H
  walk_at "wp"
  refine ⟨p, dx, _, _, rfl, hp, fld_parc, ?_⟩
  walk_at "wp"
  have e1 : kvs.map (·.1) = (nums m).map Sum.inl := by
    rw [hpar.1]
    unfold nums
    rw [List.map_map]
    rfl
  have hl : (nums m).length ≤ 60 := by
    unfold nums
    rw [List.length_map]
    have := hk.len
    have := hk.le
    omega
  refine ⟨d, kvs, nums m, rfl, .inl hd, e1, by omega, fun ys l hy hs hl => ?_⟩
  have e2 : ys = nums m := List.Perm.eq_of_pairwise (le := fun a b : Int => a ≤ b) (fun a b _ _ h1 h2 => Int.le_antisymm h1 h2) hs (ha.imp fun h => Int.le_of_lt h) hy
  rw [e2]
  exact k l hl
theorem pure_Post___len__ (vs : List V) (H : Hp) (Q : VK) (E : XK) (h : sp_Post___len__ G vs H Q E) : t_Post___len__ G { nx := fun _ H' => Q .non H', rt := Q } (L2.start N_Post___len__ vs) H := by
  obtain ⟨p, d, n, m, rfl, ⟨dx, kvs, hp, hd, hpar⟩, k⟩ := h
  show tRet _ _ [some (V.ref p)] H
  walk_at "wp"
  refine ⟨p, dx, _, _, rfl, hp, fld_parc, ?_⟩
  walk_at "wp"
  refine ⟨d, kvs, rfl, hd, ?_⟩
  rw [hpar.len]
  exact k
theorem pure_Post___iter__ (n0 : Nat) (vs : List V) (H : Hp) (Q : VK) (E : XK) (h : sp_Post___iter__ G n0 vs H Q E) : t_Post___iter__ G n0 { nx := fun _ H' => Q .non H', rt := Q } (L2.start N_Post___iter__ vs) H := by
  obtain ⟨p, dx, d, f, o, kvs, rfl, hp, hf, hd, k⟩ := h
  show tRet _ _ [some (V.ref p)] H
  walk_at "wp"
  refine ⟨p, dx, _, _, rfl, hp, hf, ?_⟩
  walk_at "wp"
  exact ⟨d, o, kvs, rfl, hd, k⟩
theorem pure_Post_put (vs : List V) (H : Hp) (Q : VK) (E : XK) (h : sp_Post_put G vs H Q E) : t_Post_put G (fun cls d _ H => E cls d H) { nx := fun _ H' => Q .non H', rt := Q } (L2.start N_Post_put vs) H := by
  obtain ⟨p, d, n, m, x, y, z, dx, dy, dz, rfl, hP, hk, hn, hx, hy, hz, fx, fy, fz, k1, k2⟩ := h
  show tSeq _ _ _ [some (V.ref p), some x, some y, some z] H
  walk_at "wp"
  refine p_spD hx fx fun H1 e1 => ?_
  walk_at "wp"
  refine ifB (fun h1 => ?_) (fun h1 => ?_)
  · walk_at "wp"
    refine p_spD (LO.Dp.up hy e1) fy fun H2 e2 => ?_
    have e2 := e1.trans e2
    walk_at "wp"
    refine ifB (fun h2 => ?_) (fun h2 => ?_)
    · walk_at "wp"
      refine p_spD (LO.Dp.up hz e2) (fz.fine) fun H3 e3 => ?_
      have e3 := e2.trans e3
      walk_at "wp"
      refine ifB (fun h3 => ?_) (fun h3 => ?_)
      · obtain ⟨nz, k1⟩ := k1 h1 h2 h3
        have P3 : PostAt G H3 p d n m := hP.fx hk (Fx.of (S := []) e3) (by simp) (by simp)
        obtain ⟨ddx, kvs, hp3, hd3, hpar⟩ := P3
        walk_at "wp"
        refine ⟨p, ddx, _, _, rfl, hp3, fld_sent, ?_⟩
        walk_at "wp"
        refine ⟨ddx, _, hp3, by simp, ?_⟩
        rw [put_sent]
        have hpd : p ≠ d := fun e => by rw [e, hd3] at hp3; cases hp3
        walk_at "wp"
        refine ⟨by simp; decide, fun t ht => ?_⟩
        have en : ((n : Nat) : Int) + 1 = ((n + 1 : Nat) : Int) := by omega
        rw [en] at *
        have q1 : (upd (upd H3 p (.ins (He.ga G.K "Post") ddx [("sent", .int ((n + 1 : Nat) : Int)), ("_parcels", .ref d)])) t (.tup [x, y, z])) p = some (.ins (He.ga G.K "Post") ddx [("sent", .int ((n + 1 : Nat) : Int)), ("_parcels", .ref d)]) := Ext.new1 ht _ _ upd_same
        have q2 : (upd (upd H3 p (.ins (He.ga G.K "Post") ddx [("sent", .int ((n + 1 : Nat) : Int)), ("_parcels", .ref d)])) t (.tup [x, y, z])) d = some (.dK kvs) := Ext.new1 ht _ _ (by rw [upd_ne (Ne.symm hpd)]; exact hd3)
        walk_at "wp"
        refine ⟨p, ddx, _, _, rfl, q1, fld_parc, ?_⟩
        walk_at "wp"
        refine ⟨p, ddx, _, _, rfl, q1, fld_sent, ?_⟩
        have hlen : kvs.length ≤ 60 := by
          rw [hpar.len]
          have := hk.len
          omega
        refine ⟨d, _, rfl, DPut.k (k := Sum.inl ((n + 1 : Nat) : Int)) q2 (by rw [sizeLine_eq]; omega), ?_⟩
        have x4 : Fx [p, d] H3 (upd H3 p (.ins (He.ga G.K "Post") ddx [("sent", .int ((n + 1 : Nat) : Int)), ("_parcels", .ref d)])) := (Fx.refl _ _).put (by simp) (by rw [hp3]; trivial)
        have x5 := x4.new (o := .tup [x, y, z]) ht
        have x6 := x5.put (p := d) (o := .dK (putK kvs (.inl ((n + 1 : Nat) : Int)) (.ref t))) (by simp) (by rw [q2]; trivial)
        have e4 : Ext H3 H3 := Ext.refl _
        walk_at "wp"
        have q3 : (upd (upd (upd H3 p (.ins (He.ga G.K "Post") ddx [("sent", .int ((n + 1 : Nat) : Int)), ("_parcels", .ref d)])) t (.tup [x, y, z])) d (.dK (putK kvs (.inl ((n + 1 : Nat) : Int)) (.ref t)))) p = some (.ins (He.ga G.K "Post") ddx [("sent", .int ((n + 1 : Nat) : Int)), ("_parcels", .ref d)]) := by
          rw [upd_ne hpd]
          exact q1
        refine ⟨p, ddx, _, _, rfl, q3, fld_sent, ?_⟩
        obtain ⟨s1, rfl, rfl, w1⟩ := name_strP hx h1
        obtain ⟨s2, rfl, rfl, w2⟩ := name_strP hy h2
        have hok : SntOk ⟨s1, s2, dz⟩ := by
          refine ⟨.tup (by simp [Snt.data]) fun q hq => ?_, ?_⟩
          · simp at hq
            rcases hq with rfl | rfl | rfl
            · exact name_fine w1
            · exact name_fine w2
            · exact fz
          · show (true && (true && (noL dz && true))) = true
            rw [nz]
            rfl
        have xa : Fx [p, d] H _ := (Fx.of e3).trans x6
        refine k1 _ ⟨s1, s2, dz⟩ rfl xa ⟨ddx, _, q3, upd_same, ?_⟩ (hk.put hn hok)
        refine par_put (LO.Par.fx hpar (fun q hq => (hk.ok q hq).nol) x6) (fun q hq => by have := hk.keys q hq; omega) ?_
        refine LO.Dp.fx ((Fx.refl [p, d] _).put (p := d) (by simp) (by rw [q2]; trivial)) _ _ (hok.nol) ?_
        refine .tup (SqT.of upd_same) (.cons (.str _) (.cons (.str _) (.cons ?_ .nil)))
        exact LO.Dp.fx x5 _ _ nz (LO.Dp.up hz e3)
      · walk_at "wp"
        exact k2 (.inr (.inr h3)) _ e3
    · walk_at "wp"
      exact k2 (.inr (.inl h2)) _ e2
  · walk_at "wp"
    exact k2 (.inl h1) _ e1
end
section
/-! K45v: put and asked, errors caught. -/
variable {G : Gv}
theorem w_isE1 {K : PySem.W.Frag} {H : Hp} {Q : VK} {a : Addr} {cls : Value} {d : Option Addr} {tbl : List (Str × Bool)} {c : Cn} {v : V} (D : Str) (b : Bool) (hm : (D, b) ∈ tbl) (hc : cls = .ref (He.ga K D)) (hd : d = none) (hv : v = .ref a) (z : Q (.bl b) H) : tIsE1 K a cls d tbl c [v, c.v K] H Q :=
  ⟨v, rfl, D, b, c.v K, hm, hc, hd, by rw [hv], z⟩
theorem w_isET {K : PySem.W.Frag} {H : Hp} {Q : VK} {a tp : Addr} {cls : Value} {d : Option Addr} {tbl : List (Str × Bool)} {cs : List Cn} {v : V} (D : Str) (b : Bool) (hm : (D, b) ∈ tbl) (hc : cls = .ref (He.ga K D)) (hd : d = none) (hv : v = .ref a) (ht : H tp = some (.tup (cs.map (Cn.v K)))) (z : Q (.bl b) H) : tIsET K a cls d tbl cs [v, .ref tp] H Q :=
  ⟨v, tp, rfl, ht, D, b, .ref tp, hm, hc, hd, by rw [hv], z⟩
abbrev errT : List (Str × Bool) := [("BadBody", true), ("BadLetter", true), ("BadMail", true), ("BadValue", true), ("Contradiction", true), ("Down", true), ("Exists", true), ("NotKeeper", true), ("NotMember", true), ("Unknown", true)]
abbrev unkT : List (Str × Bool) := [("BadBody", false), ("BadLetter", false), ("BadMail", false), ("BadValue", false), ("Contradiction", false), ("Down", false), ("Exists", false), ("NotKeeper", false), ("NotMember", false), ("Unknown", true)]
theorem no_m {m : Str} {n d : V} (h1 : (m == Str.ofString "sent") = false) (h2 : (m == Str.ofString "_parcels") = false) : List.lookup m [(("sent" : Str), n), (("_parcels" : Str), d)] = none := by simp [List.lookup, h1, h2]
theorem bad_fine : FineN 1 badD := .tup (by simp) fun x hx => by
  simp at hx
  rcases hx with rfl | rfl
  · exact str_fine _ (by decide +kernel)
  · exact str_fine _ (by decide +kernel)
theorem unk_fine : FineN 1 unkD := .tup (by simp) fun x hx => by
  simp at hx
  rcases hx with rfl | rfl
  · exact str_fine _ (by decide +kernel)
  · exact str_fine _ (by decide +kernel)
theorem pure__law_put (vs : List V) (H : Hp) (Q : VK) (E : XK) (h : sp__law_put G vs H Q E) : t__law_put G { nx := fun _ H' => Q .non H', rt := Q } (L2.start N__law_put vs) H := by
  obtain ⟨p, d, n, m, x, y, z, dx, dy, dz, rfl, hP, hk, hn, hx, hy, hz, fx, fy, fz, k1, k2⟩ := h
  show tSeq _ _ _ [some (V.ref p), some x, some y, some z, none, none] H
  refine w_seq (w_tryAs ?_)
  obtain ⟨ddx, kvs, hp, hd, hpar⟩ := id hP
  walk_at "wp"
  refine ⟨p, ddx, _, rfl, hp, no_m (by decide +kernel) (by decide +kernel), ?_⟩
  walk_at "wp"
  refine ⟨p, d, n, m, x, y, z, dx, dy, dz, rfl, hP, hk, hn, hx, hy, hz, fx, fy, fz, k1, fun hno H1 e1 => ?_⟩
  refine ⟨"BadValue", true, by decide +kernel, rfl, fun _ a ha => ?_, fun h => nomatch h⟩
  show tSeq _ _ _ _ _
  walk_at "wp"
  refine ⟨by simp; decide, fun t ht => ?_⟩
  walk_at "wp"
  refine w_isET "BadValue" false (by decide +kernel) rfl rfl rfl upd_same ?_
  walk_at "wp"
  refine w_isE1 (c := .own "RoomError") "BadValue" true (by decide +kernel) rfl rfl rfl ?_
  walk_at "wp"
  refine w_isE1 (c := .ty "ValueError") "BadValue" true (by decide +kernel) rfl rfl rfl ?_
  walk_at "wp"
  refine ⟨by simp; decide, fun T hT => ?_⟩
  exact k2 hno _ T ((e1.new ht).new hT) (.tup (SqT.of upd_same) (.cons (.str _) (.cons (.str _) .nil)))
theorem pure__law_asked (vs : List V) (H : Hp) (Q : VK) (E : XK) (h : sp__law_asked G vs H Q E) : t__law_asked G { nx := fun _ H' => Q .non H', rt := Q } (L2.start N__law_asked vs) H := by
  obtain ⟨p, d, n, m, i, b, rfl, hP, hk, k1, k2, k3⟩ := h
  show tSeq _ _ _ [some (V.ref p), some (V.int i), some (V.bl b), none] H
  refine w_seq (w_tryAs ?_)
  obtain ⟨ddx, kvs, hp, hd, hpar⟩ := id hP
  have un : ∀ D : Ends, D.rt = Q → ∀ σ : L2.St, σ = [some (V.ref p), some (V.int i), some (V.bl b), none] → look m i = none → ∀ ts, ts = (fun (sa1 : Addr) (scls1 : Value) (sd1 : Option Addr) => (tIfS (tAnd (tB (tCB (tIsE1 G.K sa1 scls1 sd1 errT (.own "RoomError")) (tCons (tVar 3) (tCons (tC (.ref (He.ga G.K "RoomError"))) tNil)))) (tAnd (tB (tCB (tIsE1 G.K sa1 scls1 sd1 errT (.ty "ValueError")) (tCons (tVar 3) (tCons (tC (.ty "ValueError")) tNil)))) (tNot (tB (tCB (tIsE1 G.K sa1 scls1 sd1 [("BadBody", false), ("BadLetter", false), ("BadMail", false), ("BadValue", true), ("Contradiction", false), ("Down", false), ("Exists", false), ("NotKeeper", false), ("NotMember", false), ("Unknown", false)] (.own "BadValue")) (tCons (tVar 3) (tCons (tC (.ref (He.ga G.K "BadValue"))) tNil))))))) (tRet (tTup (tCons (tC (.str "refused")) (tCons (tC (.str "unknown")) tNil)))) tNext)) → wAsT G.K unkT 3 ts W0 D (.ref (He.ga G.K "Unknown")) none σ H := by
    rintro D hD σ rfl hno ts rfl
    refine ⟨"Unknown", true, by decide +kernel, rfl, fun _ a ha => ?_, fun h => nomatch h⟩
    show tIfS _ _ _ _ _ _
    walk_at "wp"
    refine w_isE1 (c := .own "RoomError") "Unknown" true (by decide +kernel) rfl rfl rfl ?_
    walk_at "wp"
    refine w_isE1 (c := .ty "ValueError") "Unknown" true (by decide +kernel) rfl rfl rfl ?_
    walk_at "wp"
    refine w_isE1 (c := .own "BadValue") "Unknown" false (by decide +kernel) rfl rfl rfl ?_
    walk_at "wp"
    refine ⟨by simp; decide, fun T hT => ?_⟩
    show D.rt _ _
    rw [hD]
    exact k3 hno _ T (Ext.new1 hT) (.tup (SqT.of upd_same) (.cons (.str _) (.cons (.str _) .nil)))
  cases b with
  | true =>
    walk_at "wp"
    refine ⟨p, ddx, _, rfl, hp, no_m (by decide +kernel) (by decide +kernel), ?_⟩
    walk_at "wp"
    refine ⟨p, d, n, m, i, rfl, hP, hk, fun s H' e x P2 K2 => k1 s e rfl H' x P2 K2, fun e => un _ rfl _ rfl e _ rfl⟩
  | false =>
    walk_at "wp"
    refine ⟨p, ddx, _, rfl, hp, no_m (by decide +kernel) (by decide +kernel), ?_⟩
    walk_at "wp"
    refine ⟨p, d, n, m, i, rfl, hP, fun s v e dv => k2 s v e rfl dv, fun e => un _ rfl _ rfl e _ rfl⟩
end
section
/-! K45w: a post is as its model. -/
variable {G : Gv}
theorem w_lock {t : TS} {D : Ends} {σ : L2.St} {H : Hp} {d : Addr} {u : HO} (h : H d = some u) (hm : Mut (some u)) (z : ∀ od, t ⟨fun σ' H' => H' d = some (.frz od u) ∧ D.nx σ' (upd H' d u), fun v H' => H' d = some (.frz od u) ∧ D.rt v (upd H' d u), fun σ' H' => H' d = some (.frz od u) ∧ D.bk σ' (upd H' d u), fun σ' H' => H' d = some (.frz od u) ∧ D.ct σ' (upd H' d u)⟩ σ (upd H d (.frz od u))) : tLock t D σ H := ⟨d, u, h, hm, z⟩
theorem Ext.putN {H H' : Hp} {D : Addr} {o : HO} (x : Ext H H') (hD : H D = none) : Ext H (upd H' D o) := fun b u h => by
  rw [upd_ne (ne_of_none h hD)]
  exact x b u h
theorem Ext.gone {H H' : Hp} {D : Addr} (x : Ext H H') (h : H' D = none) : H D = none := by
  cases e : H D with
  | none => rfl
  | some o => rw [x D o e] at h; cases h
theorem dp_ints {K : PySem.W.Frag} {H : Hp} : ∀ ns : List Int, DpAll K H (ns.map V.int) (ns.map PyData.int)
  | [] => .nil
  | n :: ns => .cons (.int n) (dp_ints ns)
theorem ints_fine (ns : List Int) (h : ns.length ≤ 100000) : Fine (.list (ns.map .int)) := by
  refine ⟨Bool.and_eq_true_iff.mpr ⟨decide_eq_true (by rw [List.length_map]; exact h), fineAll_of fun x hx => ?_⟩, ?_⟩
  · obtain ⟨n, _, rfl⟩ := List.mem_map.mp hx
    rfl
  · have := depthAll_of (xs := ns.map PyData.int) (n := 0) fun x hx => by
      obtain ⟨n, _, rfl⟩ := List.mem_map.mp hx
      exact Nat.le_refl _
    show PyData.depthAll _ + 1 ≤ 32
    omega
theorem p_neInts {K : PySem.W.Frag} {H : Hp} {Q : VK} {p q : Addr} (ns : List Int) (hl : ns.length ≤ 100000) (h1 : H p = some (.lst (ns.map V.int))) (h2 : H q = some (.lst (ns.map V.int))) (z : Q (.bl false) H) : rNeD K (.ref p) (.ref q) H Q := by
  have f := ints_fine ns hl
  refine p_neD (.lst (SqL.of h1) (dp_ints ns)) (.lst (SqL.of h2) (dp_ints ns)) f f ?_
  rw [f.refl]
  exact z
theorem sp_ne : (Str.ofString "sent" == Str.ofString "parcels") = false := by decide +kernel
theorem mod_sent {a b : V} : valV [((Sum.inr "sent" : Key), a), (.inr "parcels", b)] (.inr "sent") = some a := valV_pos rfl
theorem mod_parc {a b : V} : valV [((Sum.inr "sent" : Key), a), (.inr "parcels", b)] (.inr "parcels") = some b := by
  rw [valV_neg (fun z => by have := Sum.inr.inj z; revert this; decide +kernel)]
  exact valV_pos rfl
theorem get_sent {H : Hp} {q : Addr} {a b : V} (h : H q = some (.dK [(.inr "sent", a), (.inr "parcels", b)])) : DGet H q (.str "sent") (some a) := .inl ⟨_, .inr "sent", .inl h, rfl, mod_sent.symm⟩
theorem get_parc {H : Hp} {q : Addr} {a b : V} (h : H q = some (.dK [(.inr "sent", a), (.inr "parcels", b)])) : DGet H q (.str "parcels") (some b) := .inl ⟨_, .inr "parcels", .inl h, rfl, mod_parc.symm⟩
theorem par_nums {K : PySem.W.Frag} {H : Hp} {kvs : List (Key × V)} {m : List (Nat × Snt)} (h : Par K H kvs m) : kvs.map (·.1) = (nums m).map Sum.inl := by
  rw [h.1]
  unfold nums
  rw [List.map_map]
  rfl
theorem nums_len (m : List (Nat × Snt)) : (nums m).length = m.length := by unfold nums; rw [List.length_map]
theorem sort_nums {m : List (Nat × Snt)} (ha : Asc m) {ys : List Int} (hy : ys.Perm (nums m)) (hs : ys.Pairwise (· ≤ ·)) : ys = nums m :=
  List.Perm.eq_of_pairwise (le := fun a b : Int => a ≤ b) (fun a b _ _ h1 h2 => Int.le_antisymm h1 h2) hs (ha.imp fun h => Int.le_of_lt h) hy
theorem PostAt.ext {H H' : Hp} {p d : Addr} {n : Nat} {m : List (Nat × Snt)} (h : PostAt G H p d n m) (hk : Kept n m) (x : Ext H H') : PostAt G H' p d n m := h.fx hk (Fx.of (S := []) x) (by simp) (by simp)
theorem pure__law_same (vs : List V) (H : Hp) (Q : VK) (E : XK) (h : sp__law_same G vs H Q E) : t__law_same G { nx := fun _ H' => Q .non H', rt := Q } (L2.start N__law_same vs) H := by
  obtain ⟨p, d, q, e, n, m, rfl, hP, hM, hk, ha, k⟩ := h
  show tSeq _ _ _ [some (V.ref p), some (V.ref q), none, none, none, none] H
  have hm := hk.len
  have hn := hk.le
  obtain ⟨kve, hq, he, hpe⟩ := hM
  walk_at "wp"
  refine ⟨q, _, rfl, get_parc hq, ?_⟩
  walk_at "wp"
  refine ⟨e, kve, nums m, rfl, .inl he, par_nums hpe, by rw [nums_len]; omega, fun ys l1 hy hs hl1 => ?_⟩
  obtain rfl := sort_nums ha hy hs
  walk_at "wp"
  have e1 := Ext.new1 (o := .lst ((nums m).map V.int)) hl1
  have hl10 := hl1
  have P1 := hP.ext hk e1
  have g1 : upd H l1 (.lst ((nums m).map V.int)) l1 = some (.lst ((nums m).map V.int)) := upd_same
  generalize upd H l1 (.lst ((nums m).map V.int)) = H1 at *
  obtain ⟨ddx, kvs, hp, hd, hpar⟩ := id P1
  refine ⟨p, ddx, _, rfl, hp, no_m (by decide +kernel) (by decide +kernel), ?_⟩
  walk_at "wp"
  refine ⟨p, d, n, m, rfl, P1, hk, ha, fun l2 hl2 => ?_⟩
  walk_at "wp"
  have e2 := e1.new (o := .lst ((nums m).map V.int)) hl2
  have hl20 := e1.gone hl2
  have x2 := Ext.new1 (o := .lst ((nums m).map V.int)) hl2
  have P2 := P1.ext hk x2
  have g12 := x2 _ _ g1
  have g2 : upd H1 l2 (.lst ((nums m).map V.int)) l2 = some (.lst ((nums m).map V.int)) := upd_same
  have hq2 := e2 _ _ hq
  have hl12 : l1 ≠ l2 := ne_of_none g1 hl2
  clear P1 x2 hp hd hpar g1 e1 hl1
  generalize upd H1 l2 (.lst ((nums m).map V.int)) = H2 at *
  obtain ⟨ddx, kvs, hp, hd, hpar⟩ := id P2
  have hnl : (nums m).length ≤ 100000 := by rw [nums_len]; omega
  refine p_isi (b := true) (.lst (SqL.of g2) (dp_ints _)) (by simp) rfl ?_
  walk_at "wp"
  refine p_neInts (nums m) hnl g2 g12 ?_
  walk_at "wp"
  refine ⟨p, ddx, _, rfl, hp, p, d, n, m, rfl, P2, m.length, rfl, by omega, ?_⟩
  walk_at "wp"
  refine ⟨_, _, rfl, ?_⟩
  rw [List.length_map, nums_len, decide_eq_true rfl]
  walk_at "wp"
  refine p_append g2 (by rw [List.length_map, sizeLine_eq]; omega) ?_
  walk_at "wp"
  have hpd : p ≠ d := fun e => by rw [e, hd] at hp; cases hp
  have hl2d : l2 ≠ d := fun e => by rw [e, hd] at g2; cases g2
  have hl2p : l2 ≠ p := fun e => by rw [e, hp] at g2; cases g2
  have hl2q : l2 ≠ q := fun e => by rw [e, hq2] at g2; cases g2
  have e3 := e2.putN (o := .lst ((nums m).map V.int ++ [.int 0])) hl20
  have x3 : Fx [l2] H2 (upd H2 l2 (.lst ((nums m).map V.int ++ [.int 0]))) := (Fx.refl _ _).put (by simp) (by rw [g2]; trivial)
  have P3 := P2.fx hk x3 (by simpa using Ne.symm hl2p) (by simpa using Ne.symm hl2d)
  have g13 := x3.at g12 (by simpa using hl12)
  have g23 : upd H2 l2 (.lst ((nums m).map V.int ++ [.int 0])) l2 = some (.lst ((nums m).map V.int ++ [.int 0])) := upd_same
  have hq3 := x3.at hq2 (by simpa using Ne.symm hl2q)
  clear P2 x3 hp hd hpar g2 g12 hq2 e2
  generalize upd H2 l2 (.lst ((nums m).map V.int ++ [.int 0])) = H3 at *
  obtain ⟨ddx, kvs, hp, hd, hpar⟩ := id P3
  refine w_lock hd trivial fun od => ?_
  refine w_asg (w_lc ?_)
  refine w_var rfl ⟨p, ddx, _, rfl, by rw [upd_ne hpd]; exact hp, fun n0 => ?_⟩
  refine ⟨p, ddx, d, _, od, kvs, rfl, by rw [upd_ne hpd]; exact hp, fld_parc, upd_same, fun it hit hn0 => ⟨it, _, rfl, upd_same, hn0, ?_⟩⟩
  rw [ItX.dropH_upd hit]
  intro D hD
  have hDd : D ≠ d := fun e => by rw [e, upd_same] at hD; cases hD
  have hD3 : H3 D = none := by rw [upd_ne hDd] at hD; exact hD
  have hkl : kvs.length ≤ 60 := by rw [hpar.len]; omega
  refine lc_it walk_keys (fun i H' => H' = upd (upd H3 d (.frz od (.dK kvs))) D (.lst (((nums m).take i).map V.int))) rfl (fun i H' _ p => by rw [p, upd_ne (Ne.symm hDd)]; exact upd_same) ?_ ?_
  · rintro i x H4 H5 hi rfl ⟨rfl, k0, v0, hk0, rfl⟩
    have hki : (nums m)[i]? = some ((nums m)[i]'(by rw [nums_len]; rw [hpar.len] at hi; exact hi)) := List.getElem?_eq_getElem _
    have hkk : k0 = Sum.inl ((nums m)[i]'(by rw [nums_len]; rw [hpar.len] at hi; exact hi)) := by
      have h1 : (kvs.map (·.1))[i]? = some k0 := by rw [List.getElem?_map, hk0]; rfl
      rw [par_nums hpar, List.getElem?_map, hki] at h1
      exact (Option.some.inj h1).symm
    subst hkk
    walk_at "wp"
    refine ⟨rfl, ?_⟩
    walk_at "wp"
    refine ⟨_, upd_same, by rw [List.length_map, List.length_take, sizeLine_eq]; omega, ?_⟩
    rw [upd_upd, List.take_add_one, hki, List.map_append]
    rfl
  · rintro H4 rfl
    rw [hpar.len, ← nums_len m, List.take_length]
    refine ⟨by rw [upd_ne (Ne.symm hDd)]; exact upd_same, ?_⟩
    have gD : upd (upd (upd H3 d (.frz od (.dK kvs))) D (.lst ((nums m).map V.int))) d (.dK kvs) D = some (.lst ((nums m).map V.int)) := by
      rw [upd_ne hDd]
      exact upd_same
    have hD0 := e3.gone hD3
    have x4 : Ext H3 (upd (upd (upd H3 d (.frz od (.dK kvs))) D (.lst ((nums m).map V.int))) d (.dK kvs)) := fun b o h => by
      by_cases hb : b = d
      · subst hb
        rw [hd] at h
        cases h
        exact upd_same
      · rw [upd_ne hb, upd_ne (ne_of_none h hD3), upd_ne hb]
        exact h
    have e4 := e3.trans x4
    have P4 := P3.ext hk x4
    have g14 := x4 _ _ g13
    have g24 := x4 _ _ g23
    have hq4 := x4 _ _ hq3
    have hDl2 : l2 ≠ D := ne_of_none g23 hD3
    clear x4 P3 g13 g23 hq3 hp hd hpar hD hDd hkl hD3
    generalize upd (upd (upd H3 d (.frz od (.dK kvs))) D (.lst ((nums m).map V.int))) d (.dK kvs) = H4 at *
    obtain ⟨ddx, kvs, hp, hd, hpar⟩ := id P4
    walk_at "wp"
    refine p_neInts (nums m) hnl gD g14 ?_
    walk_at "wp"
    refine ⟨p, ddx, _, rfl, hp, no_m (by decide +kernel) (by decide +kernel), ?_⟩
    walk_at "wp"
    refine ⟨p, d, n, m, rfl, P4, hk, ha, fun l3 hl3 => ?_⟩
    have x5 := Ext.new1 (o := .lst ((nums m).map V.int)) hl3
    walk_at "wp"
    refine p_neInts (nums m) hnl upd_same (x5 _ _ g14) ?_
    walk_at "wp"
    refine ⟨p, ddx, _, _, rfl, x5 _ _ hp, fld_sent, ?_⟩
    walk_at "wp"
    refine ⟨q, _, rfl, get_sent (x5 _ _ hq4), ?_⟩
    walk_at "wp"
    refine ⟨_, _, rfl, ?_⟩
    rw [decide_eq_true rfl]
    walk_at "wp"
    refine ⟨D, l2, _, _, rfl, rfl, x5 _ _ gD, x5 _ _ g24, by rw [List.length_append, List.length_map, nums_len, sizeLine_eq]; simp; omega, fun c hc => ?_⟩
    walk_at "wp"
    have x6 := x5.new (o := .lst ((nums m).map V.int ++ ((nums m).map V.int ++ [.int 0]))) hc
    have e6 := e4.trans x6
    refine ⟨c, rfl, ⟨_, SqL.of upd_same⟩, fun B hB => lc_list (xs := (nums m).map V.int ++ ((nums m).map V.int ++ [.int 0])) (fun i H' => H' = upd (upd (upd H4 l3 (.lst ((nums m).map V.int))) c (.lst ((nums m).map V.int ++ ((nums m).map V.int ++ [.int 0])))) B (.lst [])) rfl ?_ ?_ ?_⟩
    · rintro i H' _ rfl
      exact SqL.of (Ext.new1 hB _ _ upd_same)
    · rintro i x H' hx rfl
      have hx2 := List.mem_of_getElem? hx
      obtain ⟨j, rfl⟩ : ∃ j, x = V.int j := by
        rcases List.mem_append.mp hx2 with h | h
        · obtain ⟨j, _, rfl⟩ := List.mem_map.mp h
          exact ⟨j, rfl⟩
        · rcases List.mem_append.mp h with h | h
          · obtain ⟨j, _, rfl⟩ := List.mem_map.mp h
            exact ⟨j, rfl⟩
          · rw [List.mem_singleton] at h
            exact ⟨0, h⟩
      walk_at "wp"
      refine ⟨rfl, ?_⟩
      walk_at "wp"
      rfl
    · rintro H' rfl
      walk_at "wp"
      refine ⟨Nat.zero_le _, fun C hC => ?_⟩
      have f0 : Fine (.list []) := ints_fine [] (Nat.zero_le _)
      walk_at "wp"
      refine p_eqD (d := .list []) (e := .list []) (.lst (SqL.of (Ext.new1 hC _ _ upd_same)) .nil) (.lst (SqL.of upd_same) .nil) f0 f0 ?_
      rw [f0.refl]
      exact k _ ((e6.new hB).new hC)
end
section
/-! K45x: a step: put, or asked by number. -/
variable {G : Gv}
theorem Both.fx {S : List Addr} {H H' : Hp} {p d q e : Addr} {n : Nat} {m : List (Nat × Snt)} (h : Both G H p d q e n m) (x : Fx S H H') (h1 : p ∉ S) (h2 : d ∉ S) (h3 : q ∉ S) (h4 : e ∉ S) : Both G H' p d q e n m :=
  ⟨h.post.fx h.kept x h1 h2, h.mod.fx h.kept x h3 h4, h.kept, h.asc⟩
/-- the stream is none of them -/
theorem Both.off {H : Hp} {p d q e a : Addr} {n : Nat} {m : List (Nat × Snt)} (h : Both G H p d q e n m) (hA : Strm H a) : p ≠ a ∧ d ≠ a ∧ q ≠ a ∧ e ≠ a := by
  obtain ⟨⟨dx, kvs, h1, h2, _⟩, ⟨kve, h3, h4, _⟩, _, _⟩ := h
  obtain ⟨d0, s0, h5⟩ := hA
  exact ⟨ne_of h1 h5 (by intro z; cases z), ne_of h2 h5 (by intro z; cases z), ne_of h3 h5 (by intro z; cases z), ne_of h4 h5 (by intro z; cases z)⟩
theorem Both.strm {H H' : Hp} {p d q e a : Addr} {n : Nat} {m : List (Nat × Snt)} (h : Both G H p d q e n m) (hA : Strm H a) (x : Fx [a] H H') : Both G H' p d q e n m := by
  obtain ⟨h1, h2, h3, h4⟩ := h.off hA
  exact h.fx x (by simpa using h1) (by simpa using h2) (by simpa using h3) (by simpa using h4)
theorem Both.ext {H H' : Hp} {p d q e : Addr} {n : Nat} {m : List (Nat × Snt)} (h : Both G H p d q e n m) (x : Ext H H') : Both G H' p d q e n m := h.fx (Fx.of (S := []) x) (by simp) (by simp) (by simp) (by simp)
theorem ParcAt.dp {K : PySem.W.Frag} {H : Hp} {p : Addr} {d : PyData} (h : ParcAt K H p d) : Dp K H (.ref p) d ∧ isParcelD d = true ∧ FineN 10 d ∧ noL d = true := by
  obtain ⟨k, r, w, dr, dw, h1, h2, h3, rfl, h4, h5, h6⟩ := h
  exact ⟨.tup h1 (.cons (.str _) (.cons h2 (.cons h3 .nil))), h4, h5, h6⟩
theorem ParcAt.fx {S : List Addr} {K : PySem.W.Frag} {H H' : Hp} {p : Addr} {d : PyData} (h : ParcAt K H p d) (x : Fx S H H') : ParcAt K H' p d := by
  obtain ⟨k, r, w, dr, dw, h1, h2, h3, rfl, h4, h5, h6⟩ := h
  have e : (true && (noL dr && (noL dw && true))) = true := h6
  rw [Bool.true_and, Bool.and_eq_true_iff, Bool.and_eq_true_iff] at e
  exact ⟨k, r, w, dr, dw, x.sqT h1, LO.Dp.fx x _ _ e.1 h2, LO.Dp.fx x _ _ e.2.1 h3, rfl, h4, h5, h6⟩
theorem put_mod {a a' b : V} : putK [((Sum.inr "sent" : Key), a), (.inr "parcels", b)] (.inr "sent") a' = [(.inr "sent", a'), (.inr "parcels", b)] := by
  unfold putK
  rw [if_pos (by simp)]
  simp only [List.map_cons, List.map_nil]
  rw [if_pos trivial, if_neg (fun z => by have := Sum.inr.inj z; revert this; decide +kernel)]
theorem asc_put {n : Nat} {m : List (Nat × Snt)} {s : Snt} (h : Asc m) (hk : Kept n m) : Asc (m ++ [(n + 1, s)]) := by
  unfold Asc nums at *
  rw [List.map_append, List.pairwise_append]
  refine ⟨h, by simp, fun a ha b hb => ?_⟩
  simp at hb
  obtain ⟨p, hp, rfl⟩ := List.mem_map.mp ha
  have := hk.keys p hp
  omega
theorem asc_drop {m : List (Nat × Snt)} (h : Asc m) (i : Int) : Asc (drop m i) := List.Pairwise.sublist (List.Sublist.map _ List.filter_sublist) h
theorem pure__law_tries_put (vs : List V) (H : Hp) (Q : VK) (E : XK) (h : sp__law_tries_put G vs H Q E) : t__law_tries_put G { nx := fun _ H' => Q .non H', rt := Q } (L2.start N__law_tries_put vs) H := by
  obtain ⟨p, d, q, e, a, n, m, rfl, hB, hA, hde, hdq, hn, k⟩ := h
  show tSeq _ _ _ [some (V.ref p), some (V.ref q), some (V.ref a), none, none, none, none, none, none, none] H
  walk_at "wp"
  refine nameF hA fun H1 z1 n1 x1 hA1 => ?_
  walk_at "wp"
  refine w_mid (fun σ' H' => ∃ z2, σ' = [some (V.ref p), some (V.ref q), some (V.ref a), some (V.str z1), some (V.str z2), none, none, none, none, none] ∧ nameL z2.cps.toList = true ∧ Fx [a] H H' ∧ Strm H' a) ?_ ?_
  · walk_at "wp"
    refine drawF hA1 ⟨by decide, by decide⟩ fun H2 r h0 h1 x2 hA2 => ?_
    walk_at "wp"
    refine ifD (fun h2 => ?_) (fun h2 => ?_)
    · walk_at "wp"
      refine nameF hA2 fun H3 z2 n2 x3 hA3 => ?_
      walk_at "wp"
      exact ⟨z2, rfl, n2, (x1.trans x2).trans x3, hA3⟩
    · walk_at "wp"
      exact ⟨z1, rfl, n1, x1.trans x2, hA2⟩
  · rintro σ' H2 ⟨z2, rfl, n2, x2, hA2⟩
    walk_at "wp"
    refine ⟨a, rfl, hA2, fun pp dp H3 x3 hA3 hpp => ?_⟩
    have x3 := x2.trans x3
    walk_at "wp"
    refine ⟨a, pp, dp, rfl, hA3, hpp, fun l x y dx dy H4 x4 hA4 hl hx hy fx fy nx ny => ?_⟩
    have hpp4 := hpp.fx x4
    have x4 := x3.trans x4
    walk_at "wp"
    refine drawF hA4 ⟨by decide, by decide⟩ fun H5 r h0 h1 x5 hA5 => ?_
    have hpp5 := hpp4.fx x5
    obtain ⟨dpp, ip, fp, np⟩ := hpp5.dp
    have hx5 := hx _ x5
    have hy5 := hy _ x5
    have x5 := x4.trans x5
    have hB5 := hB.strm hA x5
    walk_at "wp"
    refine ifD (fun h2 => ?_) (fun h2 => ?_)
    · have fin : ∀ H6 T (a1 a2 a3 : V) (d1 d2 d3 : PyData), Ext H5 H6 → SqT G.K H6 T [a1, a2, a3] → Dp G.K H6 a1 d1 → Dp G.K H6 a2 d2 → Dp G.K H6 a3 d3 → Fine d1 → Fine d2 → FineN 19 d3 → (isNameD d1 = false ∨ isNameD d2 = false ∨ isParcelD d3 = false) →
          tRet (tOp (rEqD G.K) (tCall (sp__law_put G) [] E0 (tCons (tVar 0) (tCons (tOp (rIxT G.K) (tVar 9) (tC (.int 0))) (tCons (tOp (rIxT G.K) (tVar 9) (tC (.int 1))) (tCons (tOp (rIxT G.K) (tVar 9) (tC (.int 2))) tNil))))) (tTup (tCons (tC (.str "refused")) (tCons (tC (.str "bad")) tNil)))) { nx := fun _ H' => Q .non H', rt := Q }
          [some (V.ref p), some (V.ref q), some (V.ref a), some (V.str z1), some (V.str z2), some (V.ref pp), some x, some y, some (V.int r), some (V.ref T)] H6 := fun H6 T a1 a2 a3 d1 d2 d3 e6 hT w1 w2 w3 f1 f2 f3 hno => by
        have hB6 := hB5.ext e6
        walk_at "wp"
        refine ⟨p, d, n, m, a1, a2, a3, d1, d2, d3, rfl, hB6.post, hB6.kept, hn, w1, w2, w3, f1, f2, f3, fun g1 g2 g3 => ?_, fun _ H7 T2 e7 dT2 => ?_⟩
        · rcases hno with h | h | h
          · rw [g1] at h; cases h
          · rw [g2] at h; cases h
          · rw [g3] at h; cases h
        · walk_at "wp"
          refine ⟨by simp; decide, fun t ht => ?_⟩
          walk_at "wp"
          have e8 := Ext.new1 (o := .tup [.str "refused", .str "bad"]) ht
          refine p_eqD (LO.Dp.up dT2 e8) (e := badD) (.tup (SqT.of upd_same) (.cons (.str _) (.cons (.str _) .nil))) bad_fine.fine bad_fine.fine ?_
          rw [bad_fine.fine.refl]
          have e9 := (e6.trans e7).trans e8
          exact k _ n m ((x5.sub (by simp)).ext e9) (hB5.ext e9) (by omega)
      walk_at "wp"
      refine ⟨by simp; decide, fun t1 ht1 => ?_⟩
      walk_at "wp"
      refine ⟨by simp; decide, fun t2 ht2 => ?_⟩
      walk_at "wp"
      refine ⟨by simp; decide, fun t3 ht3 => ?_⟩
      walk_at "wp"
      refine ⟨by simp; decide, fun l2 hl2 => ?_⟩
      have q3 := Ext.new1 (o := .lst [.ref t1, .ref t2, .ref t3]) hl2
      have q2 := (Ext.new1 (o := .tup [.str z1, .str z2, y]) ht3).trans q3
      have q1 := (Ext.new1 (o := .tup [.str z1, x, .ref pp]) ht2).trans q2
      have q0 := (Ext.new1 (o := .tup [x, .str z2, .ref pp]) ht1).trans q1
      have g1 := SqT.of (K := G.K) (q1 _ _ upd_same)
      have g2 := SqT.of (K := G.K) (q2 _ _ upd_same)
      have g3 := SqT.of (K := G.K) (q3 _ _ upd_same)
      have gl := upd_same (H := upd (upd (upd H5 t1 (.tup [x, .str z2, .ref pp])) t2 (.tup [.str z1, x, .ref pp])) t3 (.tup [.str z1, .str z2, y])) (a := l2) (o := HO.lst [.ref t1, .ref t2, .ref t3])
      obtain ⟨v, hv, hm⟩ := val_at (l := [V.ref t1, V.ref t2, V.ref t3]) h0 (by simpa using h2)
      walk_at "wp"
      refine p_ixL (SqL.of gl) hv ?_
      simp only [List.mem_cons, List.not_mem_nil, or_false] at hm
      rcases hm with rfl | rfl | rfl
      · exact fin _ t1 _ _ _ _ _ _ q0 g1 (LO.Dp.up hx5 q0) (.str _) (LO.Dp.up dpp q0) fx (name_fine (n := 0) n2).fine (fp.up (by decide)) (.inl nx)
      · exact fin _ t2 _ _ _ _ _ _ q0 g2 (.str _) (LO.Dp.up hx5 q0) (LO.Dp.up dpp q0) (name_fine (n := 0) n1).fine fx (fp.up (by decide)) (.inr (.inl nx))
      · exact fin _ t3 _ _ _ _ _ _ q0 g3 (.str _) (.str _) (LO.Dp.up hy5 q0) (name_fine (n := 0) n1).fine (name_fine (n := 0) n2).fine fy (.inr (.inr ny))
    · obtain ⟨kve, hq, he, hpe⟩ := hB5.mod
      have hP5 := hB5.post
      have hqe : q ≠ e := fun z => by
        have hq2 := hq
        rw [z, he] at hq2
        injection hq2 with hq2
        injection hq2 with hq2
        have := hpe.1
        rw [hq2] at this
        cases m with
        | nil => cases this
        | cons a0 m => rw [List.map_cons, List.map_cons] at this; injection this with h1 h2; cases h1
      walk_at "wp"
      refine ⟨q, _, rfl, get_sent hq, ?_⟩
      walk_at "wp"
      have en : ((n : Nat) : Int) + 1 = ((n + 1 : Nat) : Int) := by omega
      rw [en]
      refine ⟨q, _, rfl, DPut.k (k := .inr "sent") hq (by rw [sizeLine_eq]; simp), ?_⟩
      rw [put_mod]
      have x6 : Fx [q] H5 (upd H5 q (.dK [(.inr "sent", .int ((n + 1 : Nat) : Int)), (.inr "parcels", .ref e)])) := (Fx.refl _ _).put (by simp) (by rw [hq]; trivial)
      have hq6 : upd H5 q (.dK [(.inr "sent", .int ((n + 1 : Nat) : Int)), (.inr "parcels", .ref e)]) q = some (.dK [(.inr "sent", .int ((n + 1 : Nat) : Int)), (.inr "parcels", .ref e)]) := upd_same
      have he6 := x6.at he (by simpa using Ne.symm hqe)
      have hpq : p ≠ q := by
        obtain ⟨ddx, kvs, hp, _⟩ := hP5
        exact ne_of hp hq (by intro z; cases z)
      have hpe0 : p ≠ e := by
        obtain ⟨ddx, kvs, hp, _⟩ := hP5
        exact ne_of hp he (by intro z; cases z)
      have hP6 := hP5.fx hB5.kept x6 (by simpa using hpq) (by simpa using hdq)
      have dpp6 := LO.Dp.fx x6 _ _ np dpp
      have hpe6 := LO.Par.fx hpe (fun s hs => (hB5.kept.ok s hs).nol) x6
      have x6 := (x5.sub (T := [a, q]) (by simp)).trans (x6.sub (by simp))
      clear hq he hpe hP5
      generalize upd H5 q (.dK [(.inr "sent", .int ((n + 1 : Nat) : Int)), (.inr "parcels", .ref e)]) = H6 at *
      walk_at "wp"
      refine ⟨by simp; decide, fun t ht => ?_⟩
      have e7 := Ext.new1 (o := .tup [.str z1, .str z2, .ref pp]) ht
      walk_at "wp"
      refine ⟨q, _, rfl, get_parc (e7 _ _ hq6), ?_⟩
      walk_at "wp"
      refine ⟨q, _, rfl, get_sent (e7 _ _ hq6), ?_⟩
      have hlen : kve.length ≤ 60 := by
        rw [hpe6.len]
        have := hB.kept.len
        omega
      refine ⟨e, _, rfl, DPut.k (k := .inl ((n + 1 : Nat) : Int)) (e7 _ _ he6) (by rw [sizeLine_eq]; omega), ?_⟩
      have x8 : Fx [e] (upd H6 t (.tup [.str z1, .str z2, .ref pp])) (upd (upd H6 t (.tup [.str z1, .str z2, .ref pp])) e (.dK (putK kve (.inl ((n + 1 : Nat) : Int)) (.ref t)))) := (Fx.refl _ _).put (by simp) (by rw [e7 _ _ he6]; trivial)
      have hok : SntOk ⟨z1, z2, dp⟩ := by
        refine ⟨.tup (by simp [Snt.data]) fun w hw => ?_, ?_⟩
        · simp at hw
          rcases hw with rfl | rfl | rfl
          · exact name_fine n1
          · exact name_fine n2
          · exact fp.up (by decide)
        · show (true && (true && (noL dp && true))) = true
          rw [np]
          rfl
      have hk2 := hB.kept.put hn hok
      have hpar8 : Par G.K (upd (upd H6 t (.tup [.str z1, .str z2, .ref pp])) e (.dK (putK kve (.inl ((n + 1 : Nat) : Int)) (.ref t)))) (putK kve (.inl ((n + 1 : Nat) : Int)) (.ref t)) (m ++ [(n + 1, ⟨z1, z2, dp⟩)]) := by
        refine par_put (LO.Par.fx hpe6 (fun s hs => (hB.kept.ok s hs).nol) ((Fx.of e7).trans x8)) (fun s hs => by have := hB.kept.keys s hs; omega) ?_
        exact LO.Dp.fx x8 _ _ hok.nol (.tup (SqT.of upd_same) (.cons (.str _) (.cons (.str _) (.cons (LO.Dp.up dpp6 e7) .nil))))
      have hq8 := x8.at (e7 _ _ hq6) (by simpa using hqe)
      have hP8 := hP6.fx hB.kept ((Fx.of e7).trans x8) (by simpa using hpe0) (by simpa using hde)
      have dpp8 := LO.Dp.fx ((Fx.of e7).trans x8) _ _ np dpp6
      have he8 : (upd (upd H6 t (.tup [.str z1, .str z2, .ref pp])) e (.dK (putK kve (.inl ((n + 1 : Nat) : Int)) (.ref t)))) e = some (.dK (putK kve (.inl ((n + 1 : Nat) : Int)) (.ref t))) := upd_same
      have x8 := ((x6.sub (T := [a, q, e]) (by simp)).ext e7).trans (x8.sub (by simp))
      generalize (upd (upd H6 t (.tup [.str z1, .str z2, .ref pp])) e (.dK (putK kve (.inl ((n + 1 : Nat) : Int)) (.ref t)))) = H8 at *
      walk_at "wp"
      refine ⟨p, d, n, m, .str z1, .str z2, .ref pp, .str z1, .str z2, dp, rfl, hP8, hB.kept, hn, .str _, .str _, dpp8, (name_fine (n := 0) n1).fine, (name_fine (n := 0) n2).fine, fp.up (by decide), fun g1 g2 g3 => ⟨np, fun H9 s hs x9 hP9 hk9 => ?_⟩, fun hno => ?_⟩
      · have es : s = ⟨z1, z2, dp⟩ := by
          obtain ⟨s1, s2, s3⟩ := s
          injection hs with hs
          injection hs with hs1 hs
          injection hs with hs2 hs
          injection hs with hs3 hs
          injection hs1 with hs1
          injection hs2 with hs2
          subst hs1 hs2 hs3
          rfl
        subst es
        have hq9 := x9.at hq8 (by simp; exact ⟨Ne.symm hpq, Ne.symm hdq⟩)
        walk_at "wp"
        refine ⟨q, _, rfl, get_sent hq9, ?_⟩
        walk_at "wp"
        refine ⟨_, _, rfl, ?_⟩
        rw [decide_eq_true rfl]
        refine k H9 (n + 1) _ ((x8.sub (by simp)).trans (x9.sub (by simp))) ⟨hP9, ⟨_, hq9, x9.at he8 (by simp; exact ⟨Ne.symm hpe0, Ne.symm hde⟩), LO.Par.fx hpar8 (fun s hs => (hk9.ok s hs).nol) x9⟩, hk9, asc_put hB.asc hB.kept⟩ (by omega)
      · exfalso
        rcases hno with h | h | h
        · have : isNameD (.str z1) = true := n1
          rw [this] at h
          cases h
        · have : isNameD (.str z2) = true := n2
          rw [this] at h
          cases h
        · rw [ip] at h
          cases h
theorem look_ok {n : Nat} {m : List (Nat × Snt)} (hk : Kept n m) {i : Int} {s : Snt} (h : look m i = some s) : SntOk s := by
  unfold look at h
  cases e : m.find? (fun p => decide ((p.1 : Int) = i)) with
  | none => rw [e] at h; cases h
  | some p =>
    rw [e] at h
    cases h
    exact hk.ok p (List.mem_of_find?_eq_some e)
theorem pure__law_tries_number (vs : List V) (H : Hp) (Q : VK) (E : XK) (h : sp__law_tries_number G vs H Q E) : t__law_tries_number G { nx := fun _ H' => Q .non H', rt := Q } (L2.start N__law_tries_number vs) H := by
  obtain ⟨p, d, q, e, a, b, n, m, rfl, hB, hA, hde, hdq, k⟩ := h
  show tSeq _ _ _ [some (V.ref p), some (V.ref q), some (V.ref a), some (V.bl b), none, none] H
  have hn := hB.kept.le
  obtain ⟨kve, hq, he, hpe⟩ := hB.mod
  walk_at "wp"
  refine ⟨q, _, rfl, get_sent hq, ?_⟩
  walk_at "wp"
  refine drawF hA ⟨by omega, by omega⟩ fun H1 r h0 h1 x1 hA1 => ?_
  walk_at "wp"
  refine w_mid (fun σ' H' => ∃ i, σ' = [some (V.ref p), some (V.ref q), some (V.ref a), some (V.bl b), some (V.int i), none] ∧ Fx [a] H H' ∧ Strm H' a) ?_ ?_
  · walk_at "wp"
    refine drawF hA1 ⟨by decide, by decide⟩ fun H2 r2 h20 h21 x2 hA2 => ?_
    walk_at "wp"
    refine ifD (fun h2 => ?_) (fun h2 => ?_)
    · walk_at "wp"
      refine drawF hA2 ⟨by decide, by decide⟩ fun H3 r3 h30 h31 x3 hA3 => ?_
      walk_at "wp"
      exact ⟨_, rfl, (x1.trans x2).trans x3, hA3⟩
    · walk_at "wp"
      exact ⟨_, rfl, x1.trans x2, hA2⟩
  · rintro σ' H2 ⟨i, rfl, x2, hA2⟩
    have hB2 := hB.strm hA x2
    clear hq he hpe kve
    obtain ⟨kve, hq, he, hpe⟩ := id hB2.mod
    obtain ⟨l1, l2⟩ := par_look i hpe
    walk_at "wp"
    refine ⟨q, _, rfl, get_parc hq, e, valV kve (.inl i), rfl, DGet.k (k := Sum.inl i) he, ?_⟩
    cases el : look m i with
    | none =>
      rw [l2 el]
      refine w_blE (k' := true) rfl ?_
      walk_at "wp"
      refine ⟨p, d, n, m, i, b, rfl, hB2.post, hB2.kept, (fun s h => by rw [el] at h; cases h), (fun s v h => by rw [el] at h; cases h), fun _ H3 T e3 dT => ?_⟩
      walk_at "wp"
      refine ⟨by simp; decide, fun t ht => ?_⟩
      have e4 := Ext.new1 (o := .tup [.str "refused", .str "unknown"]) ht
      walk_at "wp"
      refine p_eqD (LO.Dp.up dT e4) (e := unkD) (.tup (SqT.of upd_same) (.cons (.str _) (.cons (.str _) .nil))) unk_fine.fine unk_fine.fine ?_
      rw [unk_fine.fine.refl]
      exact k _ m ((x2.sub (by simp)).ext (e3.trans e4)) (hB2.ext (e3.trans e4))
    | some s =>
      obtain ⟨v, hv, dv⟩ := l1 s el
      have hs := look_ok hB.kept el
      rw [hv]
      refine w_blE (k' := false) rfl ?_
      walk_at "wp"
      cases b with
      | true =>
        refine ⟨p, d, n, m, i, true, rfl, hB2.post, hB2.kept, fun s2 _ _ H3 x3 P3 K3 => ?_, fun s2 v2 _ h => (nomatch h), fun h => by rw [el] at h; cases h⟩
        have hqd : q ∉ [d] := by simpa using Ne.symm hdq
        have hed : e ∉ [d] := by simpa using Ne.symm hde
        have hq3 := x3.at hq hqd
        have he3 := x3.at he hed
        have hpe3 := LO.Par.fx hpe (fun s hs => (hB.kept.ok s hs).nol) x3
        walk_at "wp"
        refine ⟨q, _, rfl, get_parc hq3, e, rfl, .inl ⟨_, .inl he3⟩, ?_⟩
        walk_at "wp"
        refine ⟨kve, .inl i, v, he3, rfl, hv, ?_⟩
        walk_at "wp"
        have x4 : Fx [e] H3 (upd H3 e (.dK (dropK kve (.inl i)))) := (Fx.refl _ _).put (by simp) (by rw [he3]; trivial)
        have hpe0 : p ≠ e := by
          obtain ⟨ddx, kvs, hp, _⟩ := hB2.post
          exact ne_of hp he (by intro z; cases z)
        have hqe : q ≠ e := fun z => by
          have hq2 := hq
          rw [z, he] at hq2
          injection hq2 with hq2
          injection hq2 with hq2
          have := hpe.1
          rw [hq2] at this
          cases m with
          | nil => cases this
          | cons a0 m => rw [List.map_cons, List.map_cons] at this; injection this with h1 h2; cases h1
        refine k _ (drop m i) (((x2.sub (by simp)).trans (x3.sub (by simp))).trans (x4.sub (by simp))) ⟨P3.fx K3 x4 (by simpa using hpe0) (by simpa using hde), ⟨_, x4.at hq3 (by simpa using hqe), upd_same, ?_⟩, K3, asc_drop hB.asc i⟩
        exact LO.Par.fx (par_drop i hpe3) (fun s hs => (K3.ok s hs).nol) x4
      | false =>
        refine ⟨p, d, n, m, i, false, rfl, hB2.post, hB2.kept, fun s2 _ h => (nomatch h), fun s2 v2 h2 _ d2 => ?_, fun h => by rw [el] at h; cases h⟩
        rw [el] at h2
        cases h2
        walk_at "wp"
        refine ⟨q, _, rfl, get_parc hq, ?_⟩
        walk_at "wp"
        refine ⟨e, v, rfl, ?_, ?_⟩
        · rw [← hv]
          exact DGet.k (k := Sum.inl i) he
        · refine p_eqD d2 dv hs.fin.fine hs.fin.fine ?_
          rw [hs.fin.fine.refl]
          exact k _ m (x2.sub (by simp)) hB2
end
section
/-! K45y: the law of the post. -/
variable {G : Gv}
/-- two posts, two models, the lists that hold them -/
structure Two (G : Gv) (H : Hp) (P M p0 d0 q0 e0 p1 d1 q1 e1 : Addr) (n0 n1 : Nat) (m0 m1 : List (Nat × Snt)) : Prop where
  lp : H P = some (.lst [.ref p0, .ref p1])
  lm : H M = some (.lst [.ref q0, .ref q1])
  b0 : Both G H p0 d0 q0 e0 n0 m0
  b1 : Both G H p1 d1 q1 e1 n1 m1
theorem Two.ext {H H' : Hp} {P M p0 d0 q0 e0 p1 d1 q1 e1 : Addr} {n0 n1 : Nat} {m0 m1 : List (Nat × Snt)} (h : Two G H P M p0 d0 q0 e0 p1 d1 q1 e1 n0 n1 m0 m1) (x : Ext H H') : Two G H' P M p0 d0 q0 e0 p1 d1 q1 e1 n0 n1 m0 m1 :=
  ⟨x _ _ h.lp, x _ _ h.lm, h.b0.ext x, h.b1.ext x⟩
theorem kept0 : Kept 0 [] := ⟨by decide, (fun _ h => nomatch h), List.nodup_nil, (fun _ h => nomatch h), Nat.le_refl _⟩
theorem par0 {K : PySem.W.Frag} {H : Hp} : Par K H [] [] := ⟨rfl, .nil⟩
theorem merge2 {a b : V} : mergeK [] [((Sum.inr "sent" : Key), a), (.inr "parcels", b)] = [(.inr "sent", a), (.inr "parcels", b)] := by
  have h : ¬ ((Sum.inr "sent" : Key) = .inr "parcels") := fun z => by have := Sum.inr.inj z; revert this; decide +kernel
  unfold mergeK
  simp only [List.foldl_cons, List.foldl_nil]
  unfold putK
  simp [h]
theorem post_made {H : Hp} {p dx : Addr} {Q : VK} {E : XK} (hp : H p = none) (hdx : H dx = none) (hne : dx ≠ p) (k : ∀ H' d, Ext H H' → H d = none → d ≠ p → PostAt G H' p d 0 [] → Q .non H') :
    sp_Post___init__ G [.ref p] (upd (upd H dx (.own p)) p (.ins (He.ga G.K "Post") dx [])) Q E := by
  refine ⟨p, dx, rfl, upd_same, fun d hd hdp => ?_⟩
  have hdd : d ≠ dx := fun e => by
    rw [e, upd_ne hne, upd_same] at hd
    cases hd
  have hd0 : H d = none := by
    rw [upd_ne hdp, upd_ne hdd] at hd
    exact hd
  refine k _ d (fun b o h => ?_) hd0 hdp ⟨dx, [], upd_same, by rw [upd_ne hdp]; exact upd_same, par0⟩
  have n1 : b ≠ p := ne_of_none h hp
  have n2 : b ≠ dx := ne_of_none h hdx
  have n3 : b ≠ d := ne_of_none h hd0
  rw [upd_ne n1, upd_ne n3, upd_ne n1, upd_ne n1, upd_ne n2]
  exact h
theorem Ext.fx {S : List Addr} {H H1 H2 : Hp} (x : Ext H H1) (y : Fx S H1 H2) (h : ∀ b ∈ S, H b = none) : Ext H H2 := fun b o e => y.but b o (x b o e) fun m => by
  rw [h b m] at e
  cases e
/-- one of the two -/
theorem Two.sel {H : Hp} {P M p0 d0 q0 e0 p1 d1 q1 e1 : Addr} {n0 n1 : Nat} {m0 m1 : List (Nat × Snt)} (h : Two G H P M p0 d0 q0 e0 p1 d1 q1 e1 n0 n1 m0 m1) {r : Int} (h0 : 0 ≤ r) (h1 : r < 2) :
    ∃ p d q e n m, atI [V.ref p0, V.ref p1] r = some (V.ref p) ∧ atI [V.ref q0, V.ref q1] r = some (V.ref q) ∧ Both G H p d q e n m := by
  have hr : r = 0 ∨ r = 1 := by omega
  rcases hr with rfl | rfl
  · exact ⟨p0, d0, q0, e0, n0, m0, rfl, rfl, h.b0⟩
  · exact ⟨p1, d1, q1, e1, n1, m1, rfl, rfl, h.b1⟩
theorem pure_law (vs : List V) (H : Hp) (Q : VK) (E : XK) (h : sp_law G vs H Q E) : t_law G { nx := fun _ H' => Q .non H', rt := Q } (L2.start N_law vs) H := by
  obtain ⟨s, ns, rfl, hS, hl, k⟩ := h
  show tSeq _ _ _ [some (V.ref s), none, none, none, none, none, none, none, none, none] H
  walk_at "wp"
  intro p0 dx0 hp0 hdx0 hn0
  refine post_made hp0 hdx0 hn0 fun H1 d0 x1 hd0 hdp0 P0 => ⟨rfl, ?_⟩
  walk_at "wp"
  intro p1 dx1 hp1 hdx1 hn1
  refine post_made hp1 hdx1 hn1 fun H2 d1 x2 hd1 hdp1 P1 => ⟨rfl, ?_⟩
  have P02 := P0.ext kept0 x2
  have np10 : p0 ≠ p1 := by obtain ⟨_, _, z, _⟩ := P0; exact ne_of_none z hp1
  have np11 : d0 ≠ p1 := by obtain ⟨_, _, _, z, _⟩ := P0; exact ne_of_none z hp1
  have nd10 : p0 ≠ d1 := by obtain ⟨_, _, z, _⟩ := P0; exact ne_of_none z hd1
  have nd11 : d0 ≠ d1 := by obtain ⟨_, _, _, z, _⟩ := P0; exact ne_of_none z hd1
  have hp10 := x1.gone hp1
  have hd10 := x1.gone hd1
  have x2 := x1.trans x2
  walk_at "wp"
  refine ⟨by simp; decide, fun P hP => ?_⟩
  have y3 := Ext.new1 (o := .lst [.ref p0, .ref p1]) hP
  have gP : upd H2 P (.lst [.ref p0, .ref p1]) P = some (.lst [.ref p0, .ref p1]) := upd_same
  have P03 := P02.ext kept0 y3
  have P13 := P1.ext kept0 y3
  have hPn := x2.gone hP
  have x3 := x2.trans y3
  clear P02 P1 P0 y3 hP
  generalize upd H2 P (.lst [.ref p0, .ref p1]) = H3 at *
  walk_at "wp"
  intro q0 hq0
  walk_at "wp"
  intro e0 he0
  walk_at "wp"
  have nqe0 : q0 ≠ e0 := fun z => by rw [← z, upd_same] at he0; cases he0
  have he03 : H3 e0 = none := by rw [upd_ne (Ne.symm nqe0)] at he0; exact he0
  refine ⟨by rw [upd_ne nqe0]; exact upd_same, [(.inr "sent", .int 0), (.inr "parcels", .ref e0)], rfl, by simp, ?_⟩
  rw [merge2]
  have y4 : Ext H3 (upd (upd (upd H3 q0 (.dK [])) e0 (.dK [])) q0 (.dK [(.inr "sent", .int 0), (.inr "parcels", .ref e0)])) := fun b o h => by
    rw [upd_ne (ne_of_none h hq0), upd_ne (ne_of_none h he03), upd_ne (ne_of_none h hq0)]
    exact h
  have M0 : ModAt G (upd (upd (upd H3 q0 (.dK [])) e0 (.dK [])) q0 (.dK [(.inr "sent", .int 0), (.inr "parcels", .ref e0)])) q0 e0 0 [] := ⟨[], upd_same, by rw [upd_ne (Ne.symm nqe0)]; exact upd_same, par0⟩
  have n_q0 : ∀ b o, H3 b = some o → b ≠ q0 := fun b o h => ne_of_none h hq0
  have n_e0 : ∀ b o, H3 b = some o → b ≠ e0 := fun b o h => ne_of_none h he03
  have P04 := P03.ext kept0 y4
  have P14 := P13.ext kept0 y4
  have gP4 := y4 _ _ gP
  have hqn := x3.gone hq0
  have hen := x3.gone he03
  have x4 := x3.trans y4
  obtain ⟨_, _, a1, a2, _⟩ := id P03
  obtain ⟨_, _, a3, a4, _⟩ := id P13
  have c1 := n_q0 _ _ a1
  have c2 := n_q0 _ _ a2
  have c3 := n_q0 _ _ a3
  have c4 := n_q0 _ _ a4
  have c5 := n_e0 _ _ a1
  have c6 := n_e0 _ _ a2
  have c7 := n_e0 _ _ a3
  have c8 := n_e0 _ _ a4
  clear a1 a2 a3 a4 y4 P03 P13 gP n_q0 n_e0 hq0 he0 he03
  generalize (upd (upd (upd H3 q0 (.dK [])) e0 (.dK [])) q0 (.dK [(.inr "sent", .int 0), (.inr "parcels", .ref e0)])) = H4 at *
  walk_at "wp"
  intro q1 hq1
  walk_at "wp"
  intro e1 he1
  walk_at "wp"
  have nqe1 : q1 ≠ e1 := fun z => by rw [← z, upd_same] at he1; cases he1
  have he14 : H4 e1 = none := by rw [upd_ne (Ne.symm nqe1)] at he1; exact he1
  refine ⟨by rw [upd_ne nqe1]; exact upd_same, [(.inr "sent", .int 0), (.inr "parcels", .ref e1)], rfl, by simp, ?_⟩
  rw [merge2]
  have y5 : Ext H4 (upd (upd (upd H4 q1 (.dK [])) e1 (.dK [])) q1 (.dK [(.inr "sent", .int 0), (.inr "parcels", .ref e1)])) := fun b o h => by
    rw [upd_ne (ne_of_none h hq1), upd_ne (ne_of_none h he14), upd_ne (ne_of_none h hq1)]
    exact h
  have M1 : ModAt G (upd (upd (upd H4 q1 (.dK [])) e1 (.dK [])) q1 (.dK [(.inr "sent", .int 0), (.inr "parcels", .ref e1)])) q1 e1 0 [] := ⟨[], upd_same, by rw [upd_ne (Ne.symm nqe1)]; exact upd_same, par0⟩
  have n_q1 : ∀ b o, H4 b = some o → b ≠ q1 := fun b o h => ne_of_none h hq1
  have n_e1 : ∀ b o, H4 b = some o → b ≠ e1 := fun b o h => ne_of_none h he14
  have P05 := P04.ext kept0 y5
  have P15 := P14.ext kept0 y5
  have M05 := M0.fx kept0 (Fx.of (S := []) y5) (by simp) (by simp)
  have gP5 := y5 _ _ gP4
  have hq1n := x4.gone hq1
  have he1n := x4.gone he14
  have x5 := x4.trans y5
  obtain ⟨_, _, a1, a2, _⟩ := id P04
  obtain ⟨_, _, a3, a4, _⟩ := id P14
  obtain ⟨_, a5, a6, _⟩ := id M0
  have f1 := n_q1 _ _ a1
  have f2 := n_q1 _ _ a2
  have f3 := n_q1 _ _ a3
  have f4 := n_q1 _ _ a4
  have f5 := n_q1 _ _ a5
  have f6 := n_q1 _ _ a6
  have g1 := n_e1 _ _ a1
  have g2 := n_e1 _ _ a2
  have g3 := n_e1 _ _ a3
  have g4 := n_e1 _ _ a4
  have g5 := n_e1 _ _ a5
  have g6 := n_e1 _ _ a6
  clear a1 a2 a3 a4 a5 a6 y5 P04 P14 M0 gP4 n_q1 n_e1 hq1 he1 he14
  generalize (upd (upd (upd H4 q1 (.dK [])) e1 (.dK [])) q1 (.dK [(.inr "sent", .int 0), (.inr "parcels", .ref e1)])) = H5 at *
  walk_at "wp"
  refine ⟨by simp; decide, fun M hM => ?_⟩
  have y6 := Ext.new1 (o := .lst [.ref q0, .ref q1]) hM
  have hMn := x5.gone hM
  have x6 := x5.trans y6
  have T6 : Two G (upd H5 M (.lst [.ref q0, .ref q1])) P M p0 d0 q0 e0 p1 d1 q1 e1 0 0 [] [] :=
    ⟨y6 _ _ gP5, upd_same, ⟨P05.ext kept0 y6, M05.fx kept0 (Fx.of (S := []) y6) (by simp) (by simp), kept0, List.Pairwise.nil⟩, ⟨P15.ext kept0 y6, M1.fx kept0 (Fx.of (S := []) y6) (by simp) (by simp), kept0, List.Pairwise.nil⟩⟩
  clear y6 hM P05 P15 M05 M1 gP5
  generalize upd H5 M (.lst [.ref q0, .ref q1]) = H6 at *
  walk_at "wp"
  have hlen : ((ns.map V.int).length : Int) = (ns.length : Int) := by rw [List.length_map]
  have nS0 : ∀ b ∈ [p0, d0, q0, e0], H b = none := fun b hb => by
    simp only [List.mem_cons, List.not_mem_nil, or_false] at hb
    rcases hb with rfl | rfl | rfl | rfl <;> assumption
  have nS1 : ∀ b ∈ [p1, d1, q1, e1], H b = none := fun b hb => by
    simp only [List.mem_cons, List.not_mem_nil, or_false] at hb
    rcases hb with rfl | rfl | rfl | rfl <;> assumption
  have far : ∀ b ∈ [p0, d0, q0, e0], ∀ c ∈ [p1, d1, q1, e1], b ≠ c := fun b hb c hc => by
    simp only [List.mem_cons, List.not_mem_nil, or_false] at hb hc
    rcases hb with rfl | rfl | rfl | rfl <;> rcases hc with rfl | rfl | rfl | rfl <;> first | assumption | (apply Ne.symm; assumption)
  have dq0 : d0 ≠ e0 := c6
  have dq1 : d0 ≠ q0 := c2
  have dq2 : d1 ≠ e1 := g4
  have dq3 : d1 ≠ q1 := f4
  refine l_rng1 (fun i σ' H' => (∃ v3 v4 v5 v6 v7, σ' = [some (V.ref s), some (V.ref P), some (V.ref M), v3, v4, v5, v6, v7, none, none]) ∧ Ext H H' ∧ ∃ n0 n1 m0 m1, Two G H' P M p0 d0 q0 e0 p1 d1 q1 e1 n0 n1 m0 m1 ∧ n0 ≤ i ∧ n1 ≤ i) (by split <;> omega) ⟨⟨_, _, _, _, _, rfl⟩, x6, 0, 0, [], [], T6, Nat.le_refl _, Nat.le_refl _⟩ ?_ ?_
  · rintro i σ' H7 hi ⟨⟨v3, v4, v5, v6, v7, rfl⟩, x7, n0, n1, m0, m1, T7, hi0, hi1⟩
    have hil : i < ns.length ∧ i < 60 := by
      split at hi <;> omega
    obtain ⟨c, hc⟩ : ∃ c, ns[i]? = some c := ⟨_, List.getElem?_eq_getElem hil.1⟩
    walk_at "wp"
    refine p_ixL (LO.SqL.ext hS x7) (at_nat (i := i) (x := V.int c) (by rw [List.getElem?_map, hc]; rfl)) ?_
    walk_at "wp"
    refine ⟨c, i, rfl, fun a d8 s8 ha => ?_⟩
    have y8 := Ext.new1 (o := .lst [.int d8, .int s8]) ha
    have hA8 : Strm (upd H7 a (.lst [.int d8, .int s8])) a := strm_upd
    have T8 := T7.ext y8
    have han := x7.gone ha
    have x8 := x7.trans y8
    have hPa : P ≠ a := ne_of_none T7.lp ha
    have hMa : M ≠ a := ne_of_none T7.lm ha
    clear y8 ha
    generalize upd H7 a (.lst [.int d8, .int s8]) = H8 at *
    walk_at "wp"
    refine drawF hA8 ⟨by decide, by decide⟩ fun H9 r9 h90 h91 x9 hA9 => ?_
    walk_at "wp"
    refine drawF hA9 ⟨by decide, by decide⟩ fun H10 r10 h100 h101 x10 hA10 => ?_
    have y10 := x9.trans x10
    have T10 : Two G H10 P M p0 d0 q0 e0 p1 d1 q1 e1 n0 n1 m0 m1 := ⟨y10.at T8.lp (by simpa using hPa), y10.at T8.lm (by simpa using hMa), T8.b0.strm hA8 y10, T8.b1.strm hA8 y10⟩
    have x10 := x8.fx y10 (fun b hb => by simp at hb; rw [hb]; exact han)
    walk_at "wp"
    refine w_mid (fun σ' H' => (∃ v3 v4 v5 v6, σ' = [some (V.ref s), some (V.ref P), some (V.ref M), v3, v4, v5, v6, some (V.bl true), none, none]) ∧ Ext H H' ∧ ∃ n0 n1 m0 m1, Two G H' P M p0 d0 q0 e0 p1 d1 q1 e1 n0 n1 m0 m1 ∧ n0 ≤ i + 1 ∧ n1 ≤ i + 1) ?_ ?_
    · obtain ⟨o0, o1, o2, o3⟩ := T10.b0.off hA10
      obtain ⟨o4, o5, o6, o7⟩ := T10.b1.off hA10
      have step0 : ∀ H' n0' m0', Fx [p0, d0, q0, e0, a] H10 H' → Both G H' p0 d0 q0 e0 n0' m0' → Two G H' P M p0 d0 q0 e0 p1 d1 q1 e1 n0' n1 m0' m1 ∧ Ext H H' := fun H' n0' m0' y B => by
        have off : ∀ b ∈ [p1, d1, q1, e1], b ∉ [p0, d0, q0, e0, a] := fun b hb hm => by
          rw [show [p0, d0, q0, e0, a] = [p0, d0, q0, e0] ++ [a] from rfl, List.mem_append] at hm
          rcases hm with hm | hm
          · exact far b hm b hb rfl
          · simp only [List.mem_cons, List.not_mem_nil, or_false] at hb hm
            subst hm
            rcases hb with rfl | rfl | rfl | rfl <;> contradiction
        have lst : ∀ c xs, H10 c = some (.lst xs) → c ≠ a → c ∉ [p0, d0, q0, e0, a] := fun c xs hc hca hm => by
          obtain ⟨⟨_, _, z1, z2, _⟩, ⟨_, z3, z4, _⟩, _, _⟩ := T10.b0
          simp only [List.mem_cons, List.not_mem_nil, or_false] at hm
          rcases hm with rfl | rfl | rfl | rfl | rfl
          · rw [hc] at z1; cases z1
          · rw [hc] at z2; cases z2
          · rw [hc] at z3; cases z3
          · rw [hc] at z4; cases z4
          · exact hca rfl
        refine ⟨⟨y.at T10.lp (lst _ _ T10.lp hPa), y.at T10.lm (lst _ _ T10.lm hMa), B, T10.b1.fx y (off _ (by simp)) (off _ (by simp)) (off _ (by simp)) (off _ (by simp))⟩, x10.fx y fun b hb => ?_⟩
        rw [show [p0, d0, q0, e0, a] = [p0, d0, q0, e0] ++ [a] from rfl, List.mem_append] at hb
        rcases hb with hb | hb
        · exact nS0 b hb
        · simp at hb; rw [hb]; exact han
      have step1 : ∀ H' n1' m1', Fx [p1, d1, q1, e1, a] H10 H' → Both G H' p1 d1 q1 e1 n1' m1' → Two G H' P M p0 d0 q0 e0 p1 d1 q1 e1 n0 n1' m0 m1' ∧ Ext H H' := fun H' n1' m1' y B => by
        have off : ∀ b ∈ [p0, d0, q0, e0], b ∉ [p1, d1, q1, e1, a] := fun b hb hm => by
          rw [show [p1, d1, q1, e1, a] = [p1, d1, q1, e1] ++ [a] from rfl, List.mem_append] at hm
          rcases hm with hm | hm
          · exact far b hb b hm rfl
          · simp only [List.mem_cons, List.not_mem_nil, or_false] at hb hm
            subst hm
            rcases hb with rfl | rfl | rfl | rfl <;> contradiction
        have lst : ∀ c xs, H10 c = some (.lst xs) → c ≠ a → c ∉ [p1, d1, q1, e1, a] := fun c xs hc hca hm => by
          obtain ⟨⟨_, _, z1, z2, _⟩, ⟨_, z3, z4, _⟩, _, _⟩ := T10.b1
          simp only [List.mem_cons, List.not_mem_nil, or_false] at hm
          rcases hm with rfl | rfl | rfl | rfl | rfl
          · rw [hc] at z1; cases z1
          · rw [hc] at z2; cases z2
          · rw [hc] at z3; cases z3
          · rw [hc] at z4; cases z4
          · exact hca rfl
        refine ⟨⟨y.at T10.lp (lst _ _ T10.lp hPa), y.at T10.lm (lst _ _ T10.lm hMa), T10.b0.fx y (off _ (by simp)) (off _ (by simp)) (off _ (by simp)) (off _ (by simp)), B⟩, x10.fx y fun b hb => ?_⟩
        rw [show [p1, d1, q1, e1, a] = [p1, d1, q1, e1] ++ [a] from rfl, List.mem_append] at hb
        rcases hb with hb | hb
        · exact nS1 b hb
        · simp at hb; rw [hb]; exact han
      have hr : r9 = 0 ∨ r9 = 1 := by omega
      have l1 := T10.lp
      have l2 := T10.lm
      walk_at "wp"
      refine ifD (fun h2 => ?_) (fun h2 => ?_)
      · rcases hr with rfl | rfl
        · walk_at "wp"
          refine ⟨p0, d0, q0, e0, a, n0, m0, rfl, T10.b0, hA10, dq0, dq1, by omega, fun H' n' m' y B hn => ?_⟩
          walk_at "wp"
          obtain ⟨t1, t2⟩ := step0 H' n' m' y B
          exact ⟨⟨_, _, _, _, rfl⟩, t2, n', n1, m', m1, t1, by omega, by omega⟩
        · walk_at "wp"
          refine ⟨p1, d1, q1, e1, a, n1, m1, rfl, T10.b1, hA10, dq2, dq3, by omega, fun H' n' m' y B hn => ?_⟩
          walk_at "wp"
          obtain ⟨t1, t2⟩ := step1 H' n' m' y B
          exact ⟨⟨_, _, _, _, rfl⟩, t2, n0, n', m0, m', t1, by omega, by omega⟩
      · rcases hr with rfl | rfl
        · walk_at "wp"
          refine ⟨p0, d0, q0, e0, a, _, n0, m0, rfl, T10.b0, hA10, dq0, dq1, fun H' m' y B => ?_⟩
          walk_at "wp"
          obtain ⟨t1, t2⟩ := step0 H' n0 m' y B
          exact ⟨⟨_, _, _, _, rfl⟩, t2, n0, n1, m', m1, t1, by omega, by omega⟩
        · walk_at "wp"
          refine ⟨p1, d1, q1, e1, a, _, n1, m1, rfl, T10.b1, hA10, dq2, dq3, fun H' m' y B => ?_⟩
          walk_at "wp"
          obtain ⟨t1, t2⟩ := step1 H' n1 m' y B
          exact ⟨⟨_, _, _, _, rfl⟩, t2, n0, n1, m0, m', t1, by omega, by omega⟩
    · rintro σ' H11 ⟨⟨v3, v4, v5, v6, rfl⟩, x11, n0', n1', m0', m1', T11, h110, h111⟩
      have l1 := T11.lp
      have l2 := T11.lm
      walk_at "wp"
      refine ⟨p0, d0, q0, e0, n0', m0', rfl, T11.b0.post, T11.b0.mod, T11.b0.kept, T11.b0.asc, fun H12 x12 => ?_⟩
      have T12 := T11.ext x12
      have l1 := T12.lp
      have l2 := T12.lm
      walk_at "wp"
      refine ⟨p1, d1, q1, e1, n1', m1', rfl, T12.b1.post, T12.b1.mod, T12.b1.kept, T12.b1.asc, fun H13 x13 => ?_⟩
      walk_at "wp"
      exact ⟨⟨_, _, _, _, _, rfl⟩, (x11.trans x12).trans x13, n0', n1', m0', m1', T12.ext x13, h110, h111⟩
  · rintro σ' H7 ⟨⟨v3, v4, v5, v6, v7, rfl⟩, x7, n0, n1, m0, m1, T7, hi0, hi1⟩
    walk_at "wp"
    refine l_rng1 (fun i σ' H' => (∃ v5 v8 v9, σ' = [some (V.ref s), some (V.ref P), some (V.ref M), v3, v4, v5, v6, v7, v8, v9]) ∧ Two G H' P M p0 d0 q0 e0 p1 d1 q1 e1 n0 n1 m0 m1) (by omega) ⟨⟨_, _, _, rfl⟩, T7⟩ ?_ ?_
    · rintro i σ' H8 hi ⟨⟨v5, v8, v9, rfl⟩, T8⟩
      obtain ⟨p, d, q, e, n, m, hp, hq, B⟩ := T8.sel (r := i) (by omega) (by omega)
      have hk := B.kept
      obtain ⟨kve, h1, h2, h3⟩ := id B.mod
      have l1 := T8.lp
      have l2 := T8.lm
      walk_at "wp"
      refine p_ixL (SqL.of l2) hq ?_
      walk_at "wp"
      refine ⟨q, _, rfl, get_sent h1, ?_⟩
      walk_at "wp"
      refine l_rng1 (fun j σ' H' => (∃ v8 v9, σ' = [some (V.ref s), some (V.ref P), some (V.ref M), v3, v4, some (V.int i), v6, v7, v8, v9]) ∧ Ext H8 H') (by have := hk.le; omega) ⟨⟨_, _, rfl⟩, Ext.refl _⟩ ?_ ?_
      · rintro j σ' H9 hj ⟨⟨v8, v9, rfl⟩, x9⟩
        have B9 := B.ext x9
        obtain ⟨kve, h1, h2, h3⟩ := id B9.mod
        obtain ⟨g1, g2⟩ := par_look (j : Int) h3
        have l1 := x9 _ _ l1
        have l2 := x9 _ _ l2
        walk_at "wp"
        refine p_ixL (SqL.of l1) hp ?_
        walk_at "wp"
        have rest : ∀ H10 v dv, Ext H9 H10 → Dp G.K H10 v dv → Fine dv → ((∃ s, look m j = some s ∧ dv = s.data) ∨ (look m j = none ∧ dv = unkD)) →
            tIfS (tTest (tOp (rNeD G.K) (tVar 9) (tDGet2 (tDGet (tOp (rIxL G.K) (tVar 2) (tVar 5)) (tC (.str "parcels"))) (tVar 8) (tTup (tCons (tC (.str "refused")) (tCons (tC (.str "unknown")) tNil)))))) (tRet (tC (.bl false))) tNext
              { nx := fun σ' H' => (∃ v8 v9, σ' = [some (V.ref s), some (V.ref P), some (V.ref M), v3, v4, some (V.int i), v6, v7, v8, v9]) ∧ Ext H8 H', rt := Q }
              [some (V.ref s), some (V.ref P), some (V.ref M), v3, v4, some (V.int i), v6, v7, some (V.int j), some v] H10 := fun H10 v dv x10 hv fv hd => by
          have h1 := x10 _ _ h1
          have h2 := x10 _ _ h2
          have l2 := x10 _ _ l2
          walk_at "wp"
          refine p_ixL (SqL.of l2) hq ?_
          walk_at "wp"
          refine ⟨q, _, rfl, get_parc h1, e, rfl, .inl ⟨_, .inl h2⟩, ?_⟩
          walk_at "wp"
          refine ⟨by simp; decide, fun t ht => ?_⟩
          have y11 := Ext.new1 (o := .tup [.str "refused", .str "unknown"]) ht
          refine ⟨valV kve (.inl (j : Int)), DGet.k (k := Sum.inl (j : Int)) (y11 _ _ h2), ?_⟩
          have fin : ∀ w, Dp G.K (upd H10 t (.tup [.str "refused", .str "unknown"])) w dv → w = (valV kve (.inl (j : Int))).getD (V.ref t) → (rNeD G.K v w (upd H10 t (.tup [.str "refused", .str "unknown"])) fun x H' => ∃ k, x = V.bl k ∧ (if k = true then tRet (tC (.bl false)) { nx := fun σ' H' => (∃ v8 v9, σ' = [some (V.ref s), some (V.ref P), some (V.ref M), v3, v4, some (V.int i), v6, v7, v8, v9]) ∧ Ext H8 H', rt := Q } [some (V.ref s), some (V.ref P), some (V.ref M), v3, v4, some (V.int i), v6, v7, some (V.int j), some v] H' else tNext { nx := fun σ' H' => (∃ v8 v9, σ' = [some (V.ref s), some (V.ref P), some (V.ref M), v3, v4, some (V.int i), v6, v7, v8, v9]) ∧ Ext H8 H', rt := Q } [some (V.ref s), some (V.ref P), some (V.ref M), v3, v4, some (V.int i), v6, v7, some (V.int j), some v] H')) := fun w hw _ => by
            refine p_neD (LO.Dp.up hv y11) hw fv fv ?_
            rw [fv.refl]
            walk_at "wp"
            exact ⟨⟨_, _, rfl⟩, (x9.trans x10).trans y11⟩
          rcases hd with ⟨s1, hs1, rfl⟩ | ⟨hno, rfl⟩
          · obtain ⟨w, hw, dw⟩ := g1 s1 hs1
            rw [hw]
            exact fin w (LO.Dp.fx (Fx.of (S := []) (x10.trans y11)) _ _ (look_ok hk hs1).nol dw) (by rw [hw]; rfl)
          · rw [g2 hno]
            exact fin (V.ref t) (.tup (SqT.of upd_same) (.cons (.str _) (.cons (.str _) .nil))) (by rw [g2 hno]; rfl)
        refine ⟨p, d, n, m, j, false, rfl, B9.post, hk, fun s1 _ h => (nomatch h), fun s1 v hs1 _ dv => ?_, fun hno H10 T x10 dT => ?_⟩
        · exact rest H9 v _ (Ext.refl _) dv (look_ok hk hs1).fin.fine (.inl ⟨s1, hs1, rfl⟩)
        · exact rest H10 _ _ x10 dT unk_fine.fine (.inr ⟨hno, rfl⟩)
      · rintro σ' H9 ⟨⟨v8, v9, rfl⟩, x9⟩
        exact ⟨⟨_, _, _, rfl⟩, T8.ext x9⟩
    · rintro σ' H8 ⟨⟨v5, v8, v9, rfl⟩, T8⟩
      have l1 := T8.lp
      have l2 := T8.lm
      walk_at "wp"
      refine ⟨p0, d0, q0, e0, n0, m0, rfl, T8.b0.post, T8.b0.mod, T8.b0.kept, T8.b0.asc, fun H12 x12 => ?_⟩
      have T12 := T8.ext x12
      have l1 := T12.lp
      have l2 := T12.lm
      walk_at "wp"
      refine ⟨p1, d1, q1, e1, n1, m1, rfl, T12.b1.post, T12.b1.mod, T12.b1.kept, T12.b1.asc, fun H13 x13 => ?_⟩
      exact k H13
end
section
/-! the row part of k45, printed by genrow2.py -/
local macro_rules | `(tactic| walk_at "sc") => `(tactic| exact ⟨rfl, rfl, rfl, by decide +kernel, rfl, by decide +kernel, by decide +kernel⟩)
theorem units65 {k : Nat} {A : Around} (r : Room k A) : A.units + 65 < cLine := by
  have := r.un
  omega
def topS (i : Nat) : Stmt := PySem.Challenge.pw_lettersonce_k45_the_post.main.body.getD i (.Pass ⟨0, 0, 0, 0⟩)
abbrev FnP (K : PySem.W.Frag) (x qual : Str) (st : Stmt) (f : Addr) (fd : FuncData) : Prop := FunD K x qual (defArgs st) (defBody st) (defScope st) [] [] f fd
def fdOf (K : PySem.W.Frag) (f : Addr) : FuncData := match K.lookup f with
  | some ⟨_, _, .func fd, _⟩ => fd
  | _ => default
theorem fd_at {K : PySem.W.Frag} {x qual : Str} {pa : Arguments} {bd : List Stmt} {sc : Scope} {dv : List V} {kw : List (Str × V)} {f : Addr} {fd : FuncData} (F : FunD K x qual pa bd sc dv kw f fd) : FunD K x qual pa bd sc dv kw f (fdOf K f) := by
  obtain ⟨oc, od, dV, kV, doc, pm, an, cdv, ct, osl, e, lk, r⟩ := F.ex
  have e2 : fdOf K f = fd := by
    unfold fdOf
    rw [lk]
  rw [e2]
  exact F
abbrev s_is_name : Stmt := (topS 19)
def d_is_name : DefX := ⟨fun K => (He.fAd K ("is_name", none)), "is_name", "is_name", defArgs s_is_name, defBody s_is_name, defScope s_is_name, [], []⟩
abbrev s_is_number : Stmt := (topS 20)
def d_is_number : DefX := ⟨fun K => (He.fAd K ("is_number", none)), "is_number", "is_number", defArgs s_is_number, defBody s_is_number, defScope s_is_number, [], []⟩
abbrev s_is_plain : Stmt := (topS 21)
def d_is_plain : DefX := ⟨fun K => (He.fAd K ("is_plain", none)), "is_plain", "is_plain", defArgs s_is_plain, defBody s_is_plain, defScope s_is_plain, [], []⟩
abbrev s_Post___init__ : Stmt := (inClass (topS 40) 0)
def d_Post___init__ : DefX := ⟨fun K => (He.fAd K ("Post", some "__init__")), "__init__", "Post.__init__", defArgs s_Post___init__, defBody s_Post___init__, defScope s_Post___init__, [], []⟩
abbrev s_Post_parcel : Stmt := (inClass (topS 40) 2)
def d_Post_parcel : DefX := ⟨fun K => (He.fAd K ("Post", some "parcel")), "parcel", "Post.parcel", defArgs s_Post_parcel, defBody s_Post_parcel, defScope s_Post_parcel, [], []⟩
abbrev s_Post_lose : Stmt := (inClass (topS 40) 3)
def d_Post_lose : DefX := ⟨fun K => (He.fAd K ("Post", some "lose")), "lose", "Post.lose", defArgs s_Post_lose, defBody s_Post_lose, defScope s_Post_lose, [], []⟩
abbrev s_Post_numbers : Stmt := (inClass (topS 40) 4)
def d_Post_numbers : DefX := ⟨fun K => (He.fAd K ("Post", some "numbers")), "numbers", "Post.numbers", defArgs s_Post_numbers, defBody s_Post_numbers, defScope s_Post_numbers, [], []⟩
abbrev s_Post___len__ : Stmt := (inClass (topS 40) 5)
def d_Post___len__ : DefX := ⟨fun K => (He.fAd K ("Post", some "__len__")), "__len__", "Post.__len__", defArgs s_Post___len__, defBody s_Post___len__, defScope s_Post___len__, [], []⟩
abbrev s_Post___iter__ : Stmt := (inClass (topS 40) 6)
def d_Post___iter__ : DefX := ⟨fun K => (He.fAd K ("Post", some "__iter__")), "__iter__", "Post.__iter__", defArgs s_Post___iter__, defBody s_Post___iter__, defScope s_Post___iter__, [], []⟩
abbrev s__law_stream : Stmt := (topS 42)
def d__law_stream : DefX := ⟨fun K => (He.fAd K ("_law_stream", none)), "_law_stream", "_law_stream", defArgs s__law_stream, defBody s__law_stream, defScope s__law_stream, [], []⟩
abbrev s__law_next : Stmt := (topS 43)
def d__law_next : DefX := ⟨fun K => (He.fAd K ("_law_next", none)), "_law_next", "_law_next", defArgs s__law_next, defBody s__law_next, defScope s__law_next, [], []⟩
abbrev s__law_is : Stmt := (topS 44)
def d__law_is : DefX := ⟨fun K => (He.fAd K ("_law_is", none)), "_law_is", "_law_is", defArgs s__law_is, defBody s__law_is, defScope s__law_is, [], []⟩
abbrev s_is_text : Stmt := (topS 22)
def d_is_text : DefX := ⟨fun K => (He.fAd K ("is_text", none)), "is_text", "is_text", defArgs s_is_text, defBody s_is_text, defScope s_is_text, [], []⟩
abbrev s_is_title : Stmt := (topS 23)
def d_is_title : DefX := ⟨fun K => (He.fAd K ("is_title", none)), "is_title", "is_title", defArgs s_is_title, defBody s_is_title, defScope s_is_title, [], []⟩
abbrev s_is_ref : Stmt := (topS 24)
def d_is_ref : DefX := ⟨fun K => (He.fAd K ("is_ref", none)), "is_ref", "is_ref", defArgs s_is_ref, defBody s_is_ref, defScope s_is_ref, [], []⟩
abbrev s_is_room : Stmt := (topS 25)
def d_is_room : DefX := ⟨fun K => (He.fAd K ("is_room", none)), "is_room", "is_room", defArgs s_is_room, defBody s_is_room, defScope s_is_room, [], []⟩
abbrev s_is_members : Stmt := (topS 29)
def d_is_members : DefX := ⟨fun K => (He.fAd K ("is_members", none)), "is_members", "is_members", defArgs s_is_members, defBody s_is_members, defScope s_is_members, [], []⟩
abbrev s_is_pair : Stmt := (topS 35)
def d_is_pair : DefX := ⟨fun K => (He.fAd K ("is_pair", none)), "is_pair", "is_pair", defArgs s_is_pair, defBody s_is_pair, defScope s_is_pair, [], []⟩
abbrev s__law_name : Stmt := (topS 45)
def d__law_name : DefX := ⟨fun K => (He.fAd K ("_law_name", none)), "_law_name", "_law_name", defArgs s__law_name, defBody s__law_name, defScope s__law_name, [], []⟩
abbrev s__law_odd : Stmt := (topS 47)
def d__law_odd : DefX := ⟨fun K => (He.fAd K ("_law_odd", none)), "_law_odd", "_law_odd", defArgs s__law_odd, defBody s__law_odd, defScope s__law_odd, [], []⟩
abbrev s__law_asked : Stmt := (topS 49)
def d__law_asked : DefX := ⟨fun K => (He.fAd K ("_law_asked", none)), "_law_asked", "_law_asked", defArgs s__law_asked, defBody s__law_asked, defScope s__law_asked, [], []⟩
abbrev s_is_body : Stmt := (topS 30)
def d_is_body : DefX := ⟨fun K => (He.fAd K ("is_body", none)), "is_body", "is_body", defArgs s_is_body, defBody s_is_body, defScope s_is_body, [], []⟩
abbrev s_is_seen : Stmt := (topS 32)
def d_is_seen : DefX := ⟨fun K => (He.fAd K ("is_seen", none)), "is_seen", "is_seen", defArgs s_is_seen, defBody s_is_seen, defScope s_is_seen, [], []⟩
abbrev s_are_counts : Stmt := (topS 36)
def d_are_counts : DefX := ⟨fun K => (He.fAd K ("are_counts", none)), "are_counts", "are_counts", defArgs s_are_counts, defBody s_are_counts, defScope s_are_counts, [], []⟩
abbrev s__law_parcel : Stmt := (topS 46)
def d__law_parcel : DefX := ⟨fun K => (He.fAd K ("_law_parcel", none)), "_law_parcel", "_law_parcel", defArgs s__law_parcel, defBody s__law_parcel, defScope s__law_parcel, [], []⟩
abbrev s__law_same : Stmt := (topS 50)
def d__law_same : DefX := ⟨fun K => (He.fAd K ("_law_same", none)), "_law_same", "_law_same", defArgs s__law_same, defBody s__law_same, defScope s__law_same, [], []⟩
abbrev s__law_tries_number : Stmt := (topS 52)
def d__law_tries_number : DefX := ⟨fun K => (He.fAd K ("_law_tries_number", none)), "_law_tries_number", "_law_tries_number", defArgs s__law_tries_number, defBody s__law_tries_number, defScope s__law_tries_number, [], []⟩
abbrev s_is_letter : Stmt := (topS 33)
def d_is_letter : DefX := ⟨fun K => (He.fAd K ("is_letter", none)), "is_letter", "is_letter", defArgs s_is_letter, defBody s_is_letter, defScope s_is_letter, [], []⟩
abbrev s_are_values : Stmt := (topS 37)
def d_are_values : DefX := ⟨fun K => (He.fAd K ("are_values", none)), "are_values", "are_values", defArgs s_are_values, defBody s_are_values, defScope s_are_values, [], []⟩
abbrev s_is_parcel : Stmt := (topS 38)
def d_is_parcel : DefX := ⟨fun K => (He.fAd K ("is_parcel", none)), "is_parcel", "is_parcel", defArgs s_is_parcel, defBody s_is_parcel, defScope s_is_parcel, [], []⟩
abbrev s_Post_put : Stmt := (inClass (topS 40) 1)
def d_Post_put : DefX := ⟨fun K => (He.fAd K ("Post", some "put")), "put", "Post.put", defArgs s_Post_put, defBody s_Post_put, defScope s_Post_put, [], []⟩
abbrev s__law_put : Stmt := (topS 48)
def d__law_put : DefX := ⟨fun K => (He.fAd K ("_law_put", none)), "_law_put", "_law_put", defArgs s__law_put, defBody s__law_put, defScope s__law_put, [], []⟩
abbrev s__law_tries_put : Stmt := (topS 51)
def d__law_tries_put : DefX := ⟨fun K => (He.fAd K ("_law_tries_put", none)), "_law_tries_put", "_law_tries_put", defArgs s__law_tries_put, defBody s__law_tries_put, defScope s__law_tries_put, [], []⟩
abbrev s_law : Stmt := (topS 53)
def d_law : DefX := ⟨fun K => (He.fAd K ("law", none)), "law", "law", defArgs s_law, defBody s_law, defScope s_law, [], []⟩
def fnL_0 : List DefX := [d_is_name,
  d_is_number,
  d_is_plain,
  d_Post___init__,
  d_Post_parcel,
  d_Post_lose,
  d_Post_numbers,
  d_Post___len__,
  d_Post___iter__,
  d__law_stream,
  d__law_next,
  d__law_is,
  d_is_text,
  d_is_title,
  d_is_ref,
  d_is_room,
  d_is_members,
  d_is_pair,
  d__law_name,
  d__law_odd,
  d__law_asked,
  d_is_body,
  d_is_seen,
  d_are_counts,
  d__law_parcel]
def fnL_1 : List DefX := [d__law_same,
  d__law_tries_number,
  d_is_letter,
  d_are_values,
  d_is_parcel,
  d_Post_put,
  d__law_put,
  d__law_tries_put,
  d_law]
def fnL : List DefX := (fnL_0 : List DefX) ++ (fnL_1 : List DefX)
def faL_0 : List FaX := [fun K => (He.Fa.cls "Post").ok K,
  fun K => (He.Fa.noat "Post" "sent").ok K,
  fun K => (He.Fa.noat "Post" "_parcels").ok K,
  fun K => (He.Fa.exc "Unknown").ok K,
  fun K => (He.Fa.glo "Unknown").ok K,
  fun K => (He.Fa.meth "Post" "lose").ok K,
  fun K => (He.Fa.meth "Post" "parcel").ok K,
  fun K => ([("BadBody", false), ("BadLetter", false), ("BadMail", false), ("BadValue", false), ("Contradiction", false), ("Down", false), ("Exists", false), ("NotKeeper", false), ("NotMember", false), ("Unknown", true)] : List (Str × Bool)).all fun p => exB "Unknown" p.1 p.2 K,
  fun K => (He.Fa.glo "RoomError").ok K,
  fun K => ([("BadBody", true), ("BadLetter", true), ("BadMail", true), ("BadValue", true), ("Contradiction", true), ("Down", true), ("Exists", true), ("NotKeeper", true), ("NotMember", true), ("Unknown", true)] : List (Str × Bool)).all fun p => ercB p.1 K && kit1B p.1 (.own "RoomError") p.2 K,
  fun K => ([("BadBody", true), ("BadLetter", true), ("BadMail", true), ("BadValue", true), ("Contradiction", true), ("Down", true), ("Exists", true), ("NotKeeper", true), ("NotMember", true), ("Unknown", true)] : List (Str × Bool)).all fun p => ercB p.1 K && kit1B p.1 (.ty "ValueError") p.2 K,
  fun K => (He.Fa.glo "BadValue").ok K,
  fun K => ([("BadBody", false), ("BadLetter", false), ("BadMail", false), ("BadValue", true), ("Contradiction", false), ("Down", false), ("Exists", false), ("NotKeeper", false), ("NotMember", false), ("Unknown", false)] : List (Str × Bool)).all fun p => ercB p.1 K && kit1B p.1 (.own "BadValue") p.2 K,
  fun K => (He.Fa.glo "PARTS").ok K,
  tabB "PARTS" [("found", 2), ("say", 1), ("reply", 2), ("edit", 2), ("recall", 1), ("mark", 2), ("title", 1), ("add", 1), ("cut", 1), ("hand", 1), ("seen", 0)],
  fun K => (He.Fa.meth "Post" "numbers").ok K,
  fun K => (He.Fa.meth "Post" "__len__").ok K,
  fun K => (He.Fa.meth "Post" "__iter__").ok K,
  fun K => (He.Fa.exc "BadValue").ok K,
  fun K => (He.Fa.meth "Post" "put").ok K,
  fun K => ([("BadBody", false), ("BadLetter", false), ("BadMail", false), ("BadValue", true), ("Contradiction", false), ("Down", false), ("Exists", false), ("NotKeeper", false), ("NotMember", false), ("Unknown", false)] : List (Str × Bool)).all fun p => exB "BadValue" p.1 p.2 K,
  fun K => (He.Fa.glo "BadBody").ok K,
  fun K => (He.Fa.glo "BadLetter").ok K,
  fun K => (He.Fa.glo "BadMail").ok K,
  fun K => (He.Fa.glo "Contradiction").ok K]
def faL_1 : List FaX := [fun K => (He.Fa.glo "Down").ok K,
  fun K => (He.Fa.glo "Exists").ok K,
  fun K => (He.Fa.glo "NotKeeper").ok K,
  fun K => (He.Fa.glo "NotMember").ok K,
  fun K => ([("BadBody", true), ("BadLetter", true), ("BadMail", true), ("BadValue", false), ("Contradiction", true), ("Down", true), ("Exists", true), ("NotKeeper", true), ("NotMember", true), ("Unknown", true)] : List (Str × Bool)).all fun p => ercB p.1 K && kitB p.1 [.own "BadBody", .own "BadLetter", .own "BadMail", .own "Contradiction", .own "Down", .own "Exists", .own "NotKeeper", .own "NotMember", .own "Unknown"] p.2 K,
  fun K => (He.Fa.mkr "Post").ok K,
  fun K => (He.Fa.glo "Post").ok K,
  fun K => (He.Fa.free "ValueError").ok K,
  fun K => (He.Fa.free "all").ok K,
  fun K => (He.Fa.free "bool").ok K,
  fun K => (He.Fa.free "enumerate").ok K,
  fun K => (He.Fa.free "int").ok K,
  fun K => (He.Fa.free "isinstance").ok K,
  fun K => (He.Fa.free "iter").ok K,
  fun K => (He.Fa.free "len").ok K,
  fun K => (He.Fa.free "list").ok K,
  fun K => (He.Fa.free "min").ok K,
  fun K => (He.Fa.free "ord").ok K,
  fun K => (He.Fa.free "range").ok K,
  fun K => (He.Fa.free "sorted").ok K,
  fun K => (He.Fa.free "str").ok K,
  fun K => (He.Fa.free "tuple").ok K,
  fun K => (He.Fa.int "GREATEST_NUMBER" 1000000000000000000).ok K,
  fun K => (He.Fa.int "LONGEST_NAME" 12).ok K,
  fun K => (He.Fa.int "LONGEST_TEXT" 400).ok K]
def faL_2 : List FaX := [fun K => (He.Fa.int "LONGEST_TITLE" 60).ok K,
  fun K => (He.Fa.int "MOST_MEMBERS" 15).ok K,
  fun K => (He.Fa.str "DIGITS" "0123456789").ok K,
  fun K => (He.Fa.str "LETTERS" "abcdefghijklmnopqrstuvwxyz").ok K,
  fun K => (He.Fa.glo "is_name").ok K,
  fun K => (He.Fa.glo "is_number").ok K,
  fun K => (He.Fa.glo "is_plain").ok K,
  fun K => (He.Fa.glo "_law_stream").ok K,
  fun K => (He.Fa.glo "_law_next").ok K,
  fun K => (He.Fa.glo "_law_is").ok K,
  fun K => (He.Fa.glo "is_text").ok K,
  fun K => (He.Fa.glo "is_title").ok K,
  fun K => (He.Fa.glo "is_ref").ok K,
  fun K => (He.Fa.glo "is_room").ok K,
  fun K => (He.Fa.glo "is_members").ok K,
  fun K => (He.Fa.glo "is_pair").ok K,
  fun K => (He.Fa.glo "_law_name").ok K,
  fun K => (He.Fa.glo "_law_odd").ok K,
  fun K => (He.Fa.glo "_law_asked").ok K,
  fun K => (He.Fa.glo "is_body").ok K,
  fun K => (He.Fa.glo "is_seen").ok K,
  fun K => (He.Fa.glo "are_counts").ok K,
  fun K => (He.Fa.glo "_law_parcel").ok K,
  fun K => (He.Fa.glo "_law_same").ok K,
  fun K => (He.Fa.glo "_law_tries_number").ok K]
def faL_3 : List FaX := [fun K => (He.Fa.glo "is_letter").ok K,
  fun K => (He.Fa.glo "are_values").ok K,
  fun K => (He.Fa.glo "is_parcel").ok K,
  fun K => (He.Fa.glo "_law_put").ok K,
  fun K => (He.Fa.glo "_law_tries_put").ok K,
  fun K => (He.Fa.glo "law").ok K]
def faL : List FaX := (faL_0 : List FaX) ++ (faL_1 : List FaX) ++ (faL_2 : List FaX) ++ (faL_3 : List FaX)
def tsL_0 : List He.Tab := [(fun K => He.ga K "PARTS", ["found", "say", "reply", "edit", "recall", "mark", "title", "add", "cut", "hand", "seen"])]
def tsL : List He.Tab := (tsL_0 : List He.Tab)
structure Wd (w : World) (K : PySem.W.Frag) (mg : Str → Option Value) : Prop where
  hp : ∃ h : Heap, K.In h ∧ h.Ns mainGlobals mg
  c : SaysX faL fnL tsL w K
section
variable {P : Program} {w : World} {K : PySem.W.Frag} {mg : Str → Option Value} {base : Heap}
theorem c_Post (W : Wd w K mg) : Cls K (He.ga K "Post") := He.cls_ok (W.c.fact 0 rfl)
theorem n_Post_sent (W : Wd w K mg) : NoAttr K (He.ga K "Post") "sent" := He.noat_ok (W.c.fact 1 rfl)
theorem n_Post__parcels (W : Wd w K mg) : NoAttr K (He.ga K "Post") "_parcels" := He.noat_ok (W.c.fact 2 rfl)
theorem exc_Unknown (W : Wd w K mg) : PySem.W.excIn K (He.ga K "Unknown") He.veBase "ValueError.__new__" = true ∧ PySem.W.keepIn K (.ref (He.ga K "Unknown")) = true ∧ PySem.W.subIn K (.ref (He.ga K "Unknown")) (.type "BaseException") = some true ∧ PySem.W.typeIn K (.ref (He.ga K "Unknown")) = some (.type "type") := He.exc_ok (W.c.fact 3 rfl)
theorem gc_Unknown (W : Wd w K mg) : mg "Unknown" = some (.ref (He.ga K "Unknown")) := let ⟨_, X, G⟩ := W.hp; He.glo_ok X G (W.c.fact 4 rfl)
theorem mt_Post_lose (W : Wd w K mg) : Meth K (He.ga K "Post") "lose" (He.fAd K ("Post", some "lose")) := He.meth_ok (W.c.fact 5 rfl)
theorem mt_Post_parcel (W : Wd w K mg) : Meth K (He.ga K "Post") "parcel" (He.fAd K ("Post", some "parcel")) := He.meth_ok (W.c.fact 6 rfl)
theorem ext_4 (W : Wd w K mg) : ∀ p ∈ ([("BadBody", false), ("BadLetter", false), ("BadMail", false), ("BadValue", false), ("Contradiction", false), ("Down", false), ("Exists", false), ("NotKeeper", false), ("NotMember", false), ("Unknown", true)] : List (Str × Bool)), exB "Unknown" p.1 p.2 K = true := fun p hp => List.all_eq_true.mp (W.c.fact 7 (f := fun K => ([("BadBody", false), ("BadLetter", false), ("BadMail", false), ("BadValue", false), ("Contradiction", false), ("Down", false), ("Exists", false), ("NotKeeper", false), ("NotMember", false), ("Unknown", true)] : List (Str × Bool)).all fun p => exB "Unknown" p.1 p.2 K) rfl) p hp
theorem gc_RoomError (W : Wd w K mg) : mg "RoomError" = some (.ref (He.ga K "RoomError")) := let ⟨_, X, G⟩ := W.hp; He.glo_ok X G (W.c.fact 8 rfl)
theorem is1_2 (W : Wd w K mg) : ∀ p ∈ ([("BadBody", true), ("BadLetter", true), ("BadMail", true), ("BadValue", true), ("Contradiction", true), ("Down", true), ("Exists", true), ("NotKeeper", true), ("NotMember", true), ("Unknown", true)] : List (Str × Bool)), ercB p.1 K = true ∧ kit1B p.1 (.own "RoomError") p.2 K = true := fun p hp => He.ba (List.all_eq_true.mp (W.c.fact 9 (f := fun K => ([("BadBody", true), ("BadLetter", true), ("BadMail", true), ("BadValue", true), ("Contradiction", true), ("Down", true), ("Exists", true), ("NotKeeper", true), ("NotMember", true), ("Unknown", true)] : List (Str × Bool)).all fun p => ercB p.1 K && kit1B p.1 (.own "RoomError") p.2 K) rfl) p hp)
theorem is1_3 (W : Wd w K mg) : ∀ p ∈ ([("BadBody", true), ("BadLetter", true), ("BadMail", true), ("BadValue", true), ("Contradiction", true), ("Down", true), ("Exists", true), ("NotKeeper", true), ("NotMember", true), ("Unknown", true)] : List (Str × Bool)), ercB p.1 K = true ∧ kit1B p.1 (.ty "ValueError") p.2 K = true := fun p hp => He.ba (List.all_eq_true.mp (W.c.fact 10 (f := fun K => ([("BadBody", true), ("BadLetter", true), ("BadMail", true), ("BadValue", true), ("Contradiction", true), ("Down", true), ("Exists", true), ("NotKeeper", true), ("NotMember", true), ("Unknown", true)] : List (Str × Bool)).all fun p => ercB p.1 K && kit1B p.1 (.ty "ValueError") p.2 K) rfl) p hp)
theorem gc_BadValue (W : Wd w K mg) : mg "BadValue" = some (.ref (He.ga K "BadValue")) := let ⟨_, X, G⟩ := W.hp; He.glo_ok X G (W.c.fact 11 rfl)
theorem is1_5 (W : Wd w K mg) : ∀ p ∈ ([("BadBody", false), ("BadLetter", false), ("BadMail", false), ("BadValue", true), ("Contradiction", false), ("Down", false), ("Exists", false), ("NotKeeper", false), ("NotMember", false), ("Unknown", false)] : List (Str × Bool)), ercB p.1 K = true ∧ kit1B p.1 (.own "BadValue") p.2 K = true := fun p hp => He.ba (List.all_eq_true.mp (W.c.fact 12 (f := fun K => ([("BadBody", false), ("BadLetter", false), ("BadMail", false), ("BadValue", true), ("Contradiction", false), ("Down", false), ("Exists", false), ("NotKeeper", false), ("NotMember", false), ("Unknown", false)] : List (Str × Bool)).all fun p => ercB p.1 K && kit1B p.1 (.own "BadValue") p.2 K) rfl) p hp)
theorem gc_PARTS (W : Wd w K mg) : mg "PARTS" = some (.ref (He.ga K "PARTS")) := let ⟨_, X, G⟩ := W.hp; He.glo_ok X G (W.c.fact 13 rfl)
theorem tb_PARTS (W : Wd w K mg) : tabB "PARTS" [("found", 2), ("say", 1), ("reply", 2), ("edit", 2), ("recall", 1), ("mark", 2), ("title", 1), ("add", 1), ("cut", 1), ("hand", 1), ("seen", 0)] K = true := W.c.fact 14 rfl
theorem kd_PARTS (W : Wd w K mg) : ∃ es n, KDict K w (He.ga K "PARTS") es n := W.c.tab 0 (t := (fun K => He.ga K "PARTS", ["found", "say", "reply", "edit", "recall", "mark", "title", "add", "cut", "hand", "seen"])) rfl
theorem gd_PARTS (W : Wd w K mg) : mg "PARTS" = some (.ref (He.ga K "PARTS")) := gc_PARTS W
theorem mt_Post_numbers (W : Wd w K mg) : Meth K (He.ga K "Post") "numbers" (He.fAd K ("Post", some "numbers")) := He.meth_ok (W.c.fact 15 rfl)
theorem mt_Post___len__ (W : Wd w K mg) : Meth K (He.ga K "Post") "__len__" (He.fAd K ("Post", some "__len__")) := He.meth_ok (W.c.fact 16 rfl)
theorem mt_Post___iter__ (W : Wd w K mg) : Meth K (He.ga K "Post") "__iter__" (He.fAd K ("Post", some "__iter__")) := He.meth_ok (W.c.fact 17 rfl)
theorem exc_BadValue (W : Wd w K mg) : PySem.W.excIn K (He.ga K "BadValue") He.veBase "ValueError.__new__" = true ∧ PySem.W.keepIn K (.ref (He.ga K "BadValue")) = true ∧ PySem.W.subIn K (.ref (He.ga K "BadValue")) (.type "BaseException") = some true ∧ PySem.W.typeIn K (.ref (He.ga K "BadValue")) = some (.type "type") := He.exc_ok (W.c.fact 18 rfl)
theorem mt_Post_put (W : Wd w K mg) : Meth K (He.ga K "Post") "put" (He.fAd K ("Post", some "put")) := He.meth_ok (W.c.fact 19 rfl)
theorem ext_0 (W : Wd w K mg) : ∀ p ∈ ([("BadBody", false), ("BadLetter", false), ("BadMail", false), ("BadValue", true), ("Contradiction", false), ("Down", false), ("Exists", false), ("NotKeeper", false), ("NotMember", false), ("Unknown", false)] : List (Str × Bool)), exB "BadValue" p.1 p.2 K = true := fun p hp => List.all_eq_true.mp (W.c.fact 20 (f := fun K => ([("BadBody", false), ("BadLetter", false), ("BadMail", false), ("BadValue", true), ("Contradiction", false), ("Down", false), ("Exists", false), ("NotKeeper", false), ("NotMember", false), ("Unknown", false)] : List (Str × Bool)).all fun p => exB "BadValue" p.1 p.2 K) rfl) p hp
theorem gc_BadBody (W : Wd w K mg) : mg "BadBody" = some (.ref (He.ga K "BadBody")) := let ⟨_, X, G⟩ := W.hp; He.glo_ok X G (W.c.fact 21 rfl)
theorem gc_BadLetter (W : Wd w K mg) : mg "BadLetter" = some (.ref (He.ga K "BadLetter")) := let ⟨_, X, G⟩ := W.hp; He.glo_ok X G (W.c.fact 22 rfl)
theorem gc_BadMail (W : Wd w K mg) : mg "BadMail" = some (.ref (He.ga K "BadMail")) := let ⟨_, X, G⟩ := W.hp; He.glo_ok X G (W.c.fact 23 rfl)
theorem gc_Contradiction (W : Wd w K mg) : mg "Contradiction" = some (.ref (He.ga K "Contradiction")) := let ⟨_, X, G⟩ := W.hp; He.glo_ok X G (W.c.fact 24 rfl)
theorem gc_Down (W : Wd w K mg) : mg "Down" = some (.ref (He.ga K "Down")) := let ⟨_, X, G⟩ := W.hp; He.glo_ok X G (W.c.fact 25 rfl)
theorem gc_Exists (W : Wd w K mg) : mg "Exists" = some (.ref (He.ga K "Exists")) := let ⟨_, X, G⟩ := W.hp; He.glo_ok X G (W.c.fact 26 rfl)
theorem gc_NotKeeper (W : Wd w K mg) : mg "NotKeeper" = some (.ref (He.ga K "NotKeeper")) := let ⟨_, X, G⟩ := W.hp; He.glo_ok X G (W.c.fact 27 rfl)
theorem gc_NotMember (W : Wd w K mg) : mg "NotMember" = some (.ref (He.ga K "NotMember")) := let ⟨_, X, G⟩ := W.hp; He.glo_ok X G (W.c.fact 28 rfl)
theorem ist_1 (W : Wd w K mg) : ∀ p ∈ ([("BadBody", true), ("BadLetter", true), ("BadMail", true), ("BadValue", false), ("Contradiction", true), ("Down", true), ("Exists", true), ("NotKeeper", true), ("NotMember", true), ("Unknown", true)] : List (Str × Bool)), ercB p.1 K = true ∧ kitB p.1 [.own "BadBody", .own "BadLetter", .own "BadMail", .own "Contradiction", .own "Down", .own "Exists", .own "NotKeeper", .own "NotMember", .own "Unknown"] p.2 K = true := fun p hp => He.ba (List.all_eq_true.mp (W.c.fact 29 (f := fun K => ([("BadBody", true), ("BadLetter", true), ("BadMail", true), ("BadValue", false), ("Contradiction", true), ("Down", true), ("Exists", true), ("NotKeeper", true), ("NotMember", true), ("Unknown", true)] : List (Str × Bool)).all fun p => ercB p.1 K && kitB p.1 [.own "BadBody", .own "BadLetter", .own "BadMail", .own "Contradiction", .own "Down", .own "Exists", .own "NotKeeper", .own "NotMember", .own "Unknown"] p.2 K) rfl) p hp)
theorem mk_Post (W : Wd w K mg) : Mk K (He.ga K "Post") (He.fAd K ("Post", some "__init__")) := He.mkr_ok (W.c.fact 30 rfl)
theorem gc_Post (W : Wd w K mg) : mg "Post" = some (.ref (He.ga K "Post")) := let ⟨_, X, G⟩ := W.hp; He.glo_ok X G (W.c.fact 31 rfl)
theorem f_ValueError (W : Wd w K mg) : mg "ValueError" = none := let ⟨_, X, G⟩ := W.hp; He.free_ok X G (W.c.fact 32 (f := fun K => (He.Fa.free "ValueError").ok K) rfl)
theorem f_all (W : Wd w K mg) : mg "all" = none := let ⟨_, X, G⟩ := W.hp; He.free_ok X G (W.c.fact 33 (f := fun K => (He.Fa.free "all").ok K) rfl)
theorem f_bool (W : Wd w K mg) : mg "bool" = none := let ⟨_, X, G⟩ := W.hp; He.free_ok X G (W.c.fact 34 (f := fun K => (He.Fa.free "bool").ok K) rfl)
theorem f_enumerate (W : Wd w K mg) : mg "enumerate" = none := let ⟨_, X, G⟩ := W.hp; He.free_ok X G (W.c.fact 35 (f := fun K => (He.Fa.free "enumerate").ok K) rfl)
theorem f_int (W : Wd w K mg) : mg "int" = none := let ⟨_, X, G⟩ := W.hp; He.free_ok X G (W.c.fact 36 (f := fun K => (He.Fa.free "int").ok K) rfl)
theorem f_isinstance (W : Wd w K mg) : mg "isinstance" = none := let ⟨_, X, G⟩ := W.hp; He.free_ok X G (W.c.fact 37 (f := fun K => (He.Fa.free "isinstance").ok K) rfl)
theorem f_iter (W : Wd w K mg) : mg "iter" = none := let ⟨_, X, G⟩ := W.hp; He.free_ok X G (W.c.fact 38 (f := fun K => (He.Fa.free "iter").ok K) rfl)
theorem f_len (W : Wd w K mg) : mg "len" = none := let ⟨_, X, G⟩ := W.hp; He.free_ok X G (W.c.fact 39 (f := fun K => (He.Fa.free "len").ok K) rfl)
theorem f_list (W : Wd w K mg) : mg "list" = none := let ⟨_, X, G⟩ := W.hp; He.free_ok X G (W.c.fact 40 (f := fun K => (He.Fa.free "list").ok K) rfl)
theorem f_min (W : Wd w K mg) : mg "min" = none := let ⟨_, X, G⟩ := W.hp; He.free_ok X G (W.c.fact 41 (f := fun K => (He.Fa.free "min").ok K) rfl)
theorem f_ord (W : Wd w K mg) : mg "ord" = none := let ⟨_, X, G⟩ := W.hp; He.free_ok X G (W.c.fact 42 (f := fun K => (He.Fa.free "ord").ok K) rfl)
theorem f_range (W : Wd w K mg) : mg "range" = none := let ⟨_, X, G⟩ := W.hp; He.free_ok X G (W.c.fact 43 (f := fun K => (He.Fa.free "range").ok K) rfl)
theorem f_sorted (W : Wd w K mg) : mg "sorted" = none := let ⟨_, X, G⟩ := W.hp; He.free_ok X G (W.c.fact 44 (f := fun K => (He.Fa.free "sorted").ok K) rfl)
theorem f_str (W : Wd w K mg) : mg "str" = none := let ⟨_, X, G⟩ := W.hp; He.free_ok X G (W.c.fact 45 (f := fun K => (He.Fa.free "str").ok K) rfl)
theorem f_tuple (W : Wd w K mg) : mg "tuple" = none := let ⟨_, X, G⟩ := W.hp; He.free_ok X G (W.c.fact 46 (f := fun K => (He.Fa.free "tuple").ok K) rfl)
theorem g_GREATEST_NUMBER (W : Wd w K mg) : ∃ t, mg "GREATEST_NUMBER" = some (.int 1000000000000000000 t) := let ⟨_, X, G⟩ := W.hp; He.int_ok X G (W.c.fact 47 (f := fun K => (He.Fa.int "GREATEST_NUMBER" 1000000000000000000).ok K) rfl)
theorem g_LONGEST_NAME (W : Wd w K mg) : ∃ t, mg "LONGEST_NAME" = some (.int 12 t) := let ⟨_, X, G⟩ := W.hp; He.int_ok X G (W.c.fact 48 (f := fun K => (He.Fa.int "LONGEST_NAME" 12).ok K) rfl)
theorem g_LONGEST_TEXT (W : Wd w K mg) : ∃ t, mg "LONGEST_TEXT" = some (.int 400 t) := let ⟨_, X, G⟩ := W.hp; He.int_ok X G (W.c.fact 49 (f := fun K => (He.Fa.int "LONGEST_TEXT" 400).ok K) rfl)
theorem g_LONGEST_TITLE (W : Wd w K mg) : ∃ t, mg "LONGEST_TITLE" = some (.int 60 t) := let ⟨_, X, G⟩ := W.hp; He.int_ok X G (W.c.fact 50 (f := fun K => (He.Fa.int "LONGEST_TITLE" 60).ok K) rfl)
theorem g_MOST_MEMBERS (W : Wd w K mg) : ∃ t, mg "MOST_MEMBERS" = some (.int 15 t) := let ⟨_, X, G⟩ := W.hp; He.int_ok X G (W.c.fact 51 (f := fun K => (He.Fa.int "MOST_MEMBERS" 15).ok K) rfl)
theorem g_DIGITS (W : Wd w K mg) : ∃ t, mg "DIGITS" = some (.str "0123456789" t) := let ⟨_, X, G⟩ := W.hp; He.str_ok X G (W.c.fact 52 (f := fun K => (He.Fa.str "DIGITS" "0123456789").ok K) rfl)
theorem g_LETTERS (W : Wd w K mg) : ∃ t, mg "LETTERS" = some (.str "abcdefghijklmnopqrstuvwxyz" t) := let ⟨_, X, G⟩ := W.hp; He.str_ok X G (W.c.fact 53 (f := fun K => (He.Fa.str "LETTERS" "abcdefghijklmnopqrstuvwxyz").ok K) rfl)
theorem m_is_name (W : Wd w K mg) : mg "is_name" = some (.ref (He.fAd K ("is_name", none))) := let ⟨_, X, G⟩ := W.hp; He.glo_ok X G (W.c.fact 54 (f := fun K => (He.Fa.glo "is_name").ok K) rfl)
theorem F_is_name (W : Wd w K mg) : FnP K "is_name" "is_name" s_is_name (He.fAd K ("is_name", none)) (fdOf K (He.fAd K ("is_name", none))) := let ⟨_, F⟩ := W.c.def_ 0 (d := d_is_name) rfl; fd_at F
theorem b_is_name (W : Wd w K mg) : Binds K (fdOf K (He.fAd K ("is_name", none))) ["thing"] [] := (F_is_name W).bindsN fun _ _ _ _ _ _ us hl => match us, hl with | [_], _ => rfl
theorem sc_is_name : FnScope N_is_name ["thing"] (defScope s_is_name) := by walk_at "sc"
theorem ok_is_name (W : Wd w K mg) : FnOk P w K mg base CX0 1 (He.fAd K ("is_name", none)) (fdOf K (He.fAd K ("is_name", none))) ["thing"] (sp_is_name ⟨K, P, w⟩) := by
  have f_isinstance := f_isinstance W
  have f_len := f_len W
  have f_str := f_str W
  obtain ⟨_, g_LONGEST_NAME⟩ := g_LONGEST_NAME W
  obtain ⟨_, g_DIGITS⟩ := g_DIGITS W
  obtain ⟨_, g_LETTERS⟩ := g_LETTERS W
  refine (F_is_name W).ok sc_is_name (fun vs H Q E h => by repeat (first | (obtain ⟨e, _⟩ := h; subst e; exact rfl) | obtain ⟨_, h⟩ := h)) (fun cdv A outer s H vs Q E hr h => ?_)
  refine ⟨t_is_name ⟨K, P, w⟩, PSs.nox ?_, pure_is_name vs H Q E h⟩
  exact (pss_cons (ps_if (PW.pt (pw_or (pt_not (pt_val (pe_callB call_isi (by rfl) f_isinstance boot_isinstance (pa_cons (pv 0) (pa_cons (pe_bltn rfl f_str boot_str rfl) pa_nil))))) (pw_or1 (pt_not (pt_chain op_le op_le pe_int (pe_callB call_len (by rfl) f_len boot_len (pa_cons (pv 0) pa_nil)) (pe_glob rfl g_LONGEST_NAME ⟨_, rfl⟩)))))) (pss_one (ps_ret pe_bl)) pss_nil)
      (pss_cons (ps_for PassesOwn.never rfl (pi_str (pv 0)) (pg_name (i := 1) sc_is_name.nd rfl (by first | exact Or.inl rfl | exact Or.inr rfl)) (pss_one (ps_if (PW.pt (pw_and (pt_cmpR op_notIn_sign (pv 1) (pe_glob rfl g_LETTERS ⟨_, rfl⟩) (by rfl)) (pw_and1 (pt_cmpR op_notIn_sign (pv 1) (pe_glob rfl g_DIGITS ⟨_, rfl⟩) (by rfl))))) (pss_one (ps_ret pe_bl)) pss_nil)))
      (pss_one (ps_ret (pe_cmpR op_in_sign (pe_ix ix_str (pv 0) pe_int (fun _ _ => rfl)) (pe_glob rfl g_LETTERS ⟨_, rfl⟩) (by rfl))))))
theorem m_is_number (W : Wd w K mg) : mg "is_number" = some (.ref (He.fAd K ("is_number", none))) := let ⟨_, X, G⟩ := W.hp; He.glo_ok X G (W.c.fact 55 (f := fun K => (He.Fa.glo "is_number").ok K) rfl)
theorem F_is_number (W : Wd w K mg) : FnP K "is_number" "is_number" s_is_number (He.fAd K ("is_number", none)) (fdOf K (He.fAd K ("is_number", none))) := let ⟨_, F⟩ := W.c.def_ 1 (d := d_is_number) rfl; fd_at F
theorem b_is_number (W : Wd w K mg) : Binds K (fdOf K (He.fAd K ("is_number", none))) ["thing"] [] := (F_is_number W).bindsN fun _ _ _ _ _ _ us hl => match us, hl with | [_], _ => rfl
theorem sc_is_number : FnScope N_is_number ["thing"] (defScope s_is_number) := by walk_at "sc"
theorem ok_is_number (W : Wd w K mg) : FnOk P w K mg base CX0 1 (He.fAd K ("is_number", none)) (fdOf K (He.fAd K ("is_number", none))) ["thing"] (sp_is_number ⟨K, P, w⟩) := by
  have f_bool := f_bool W
  have f_int := f_int W
  have f_isinstance := f_isinstance W
  obtain ⟨_, g_GREATEST_NUMBER⟩ := g_GREATEST_NUMBER W
  refine (F_is_number W).ok sc_is_number (fun vs H Q E h => by repeat (first | (obtain ⟨e, _⟩ := h; subst e; exact rfl) | obtain ⟨_, h⟩ := h)) (fun cdv A outer s H vs Q E hr h => ?_)
  refine ⟨t_is_number ⟨K, P, w⟩, PSs.nox ?_, pure_is_number vs H Q E h⟩
  exact (pss_cons (ps_if (PW.pt (pw_or (pt_not (pt_val (pe_callB call_isi (by rfl) f_isinstance boot_isinstance (pa_cons (pv 0) (pa_cons (pe_bltn rfl f_int boot_int rfl) pa_nil))))) (pw_or1 (pt_val (pe_callB call_isi (by rfl) f_isinstance boot_isinstance (pa_cons (pv 0) (pa_cons (pe_bltn rfl f_bool boot_bool rfl) pa_nil))))))) (pss_one (ps_ret pe_bl)) pss_nil)
      (pss_one (ps_ret (pe_chain op_le op_le pe_int (pv 0) (pe_glob rfl g_GREATEST_NUMBER ⟨_, rfl⟩)))))
theorem m_is_plain (W : Wd w K mg) : mg "is_plain" = some (.ref (He.fAd K ("is_plain", none))) := let ⟨_, X, G⟩ := W.hp; He.glo_ok X G (W.c.fact 56 (f := fun K => (He.Fa.glo "is_plain").ok K) rfl)
theorem F_is_plain (W : Wd w K mg) : FnP K "is_plain" "is_plain" s_is_plain (He.fAd K ("is_plain", none)) (fdOf K (He.fAd K ("is_plain", none))) := let ⟨_, F⟩ := W.c.def_ 2 (d := d_is_plain) rfl; fd_at F
theorem b_is_plain (W : Wd w K mg) : Binds K (fdOf K (He.fAd K ("is_plain", none))) ["text"] [] := (F_is_plain W).bindsN fun _ _ _ _ _ _ us hl => match us, hl with | [_], _ => rfl
theorem sc_is_plain : FnScope N_is_plain ["text"] (defScope s_is_plain) := by walk_at "sc"
theorem ok_is_plain (W : Wd w K mg) : FnOk P w K mg base CX0 1 (He.fAd K ("is_plain", none)) (fdOf K (He.fAd K ("is_plain", none))) ["text"] (sp_is_plain ⟨K, P, w⟩) := by
  have f_ord := f_ord W
  refine (F_is_plain W).ok sc_is_plain (fun vs H Q E h => by repeat (first | (obtain ⟨e, _⟩ := h; subst e; exact rfl) | obtain ⟨_, h⟩ := h)) (fun cdv A outer s H vs Q E hr h => ?_)
  refine ⟨t_is_plain ⟨K, P, w⟩, PSs.nox ?_, pure_is_plain vs H Q E h⟩
  exact (pss_cons (ps_for PassesOwn.never rfl (pi_str (pv 0)) (pg_name (i := 1) sc_is_plain.nd rfl (by first | exact Or.inl rfl | exact Or.inr rfl)) (pss_one (ps_if (pt_not (pt_chain op_le op_le pe_int (pe_callB call_ord (by rfl) f_ord boot_ord (pa_cons (pv 1) pa_nil)) pe_int)) (pss_one (ps_ret pe_bl)) pss_nil)))
      (pss_one (ps_ret pe_bl)))
theorem F_Post___init__ (W : Wd w K mg) : FnP K "__init__" "Post.__init__" s_Post___init__ (He.fAd K ("Post", some "__init__")) (fdOf K (He.fAd K ("Post", some "__init__"))) := let ⟨_, F⟩ := W.c.def_ 3 (d := d_Post___init__) rfl; fd_at F
theorem b_Post___init__ (W : Wd w K mg) : Binds K (fdOf K (He.fAd K ("Post", some "__init__"))) ["self"] [] := (F_Post___init__ W).bindsN fun _ _ _ _ _ _ us hl => match us, hl with | [_], _ => rfl
theorem sc_Post___init__ : FnScope N_Post___init__ ["self"] (defScope s_Post___init__) := by walk_at "sc"
theorem ok_Post___init__ (W : Wd w K mg) : FnOk P w K mg base CX0 1 (He.fAd K ("Post", some "__init__")) (fdOf K (He.fAd K ("Post", some "__init__"))) ["self"] (sp_Post___init__ ⟨K, P, w⟩) := by
  have c_Post := c_Post W
  have n_Post_sent := n_Post_sent W
  have n_Post__parcels := n_Post__parcels W
  refine (F_Post___init__ W).ok sc_Post___init__ (fun vs H Q E h => by repeat (first | (obtain ⟨e, _⟩ := h; subst e; exact rfl) | obtain ⟨_, h⟩ := h)) (fun cdv A outer s H vs Q E hr h => ?_)
  refine ⟨t_Post___init__ ⟨K, P, w⟩, PSs.nox ?_, pure_Post___init__ vs H Q E h⟩
  exact (pss_cons (ps_fldC c_Post n_Post_sent (pv 0) pe_int)
      (pss_one (ps_fldC c_Post n_Post__parcels (pv 0) pe_dnewK)))
theorem F_Post_parcel (W : Wd w K mg) : FnP K "parcel" "Post.parcel" s_Post_parcel (He.fAd K ("Post", some "parcel")) (fdOf K (He.fAd K ("Post", some "parcel"))) := let ⟨_, F⟩ := W.c.def_ 4 (d := d_Post_parcel) rfl; fd_at F
theorem b_Post_parcel (W : Wd w K mg) : Binds K (fdOf K (He.fAd K ("Post", some "parcel"))) ["self", "number"] [] := (F_Post_parcel W).bindsN fun _ _ _ _ _ _ us hl => match us, hl with | [_, _], _ => rfl
theorem sc_Post_parcel : FnScope N_Post_parcel ["self", "number"] (defScope s_Post_parcel) := by walk_at "sc"
theorem ok_Post_parcel (W : Wd w K mg) : FnOk P w K mg base (L2.CX P w) 1 (He.fAd K ("Post", some "parcel")) (fdOf K (He.fAd K ("Post", some "parcel"))) ["self", "number"] (sp_Post_parcel ⟨K, P, w⟩) := by
  have c_Post := c_Post W
  have n_Post__parcels := n_Post__parcels W
  have exc_Unknown := exc_Unknown W
  have gc_Unknown := gc_Unknown W
  refine (F_Post_parcel W).ok sc_Post_parcel (fun vs H Q E h => by repeat (first | (obtain ⟨e, _⟩ := h; subst e; exact rfl) | obtain ⟨_, h⟩ := h)) (fun cdv A outer s H vs Q E hr h => ?_)
  have hu := hu_of hr
  refine ⟨t_Post_parcel ⟨K, P, w⟩ (fun cls d _ H => E cls d H), ?_, pure_Post_parcel vs H Q E h⟩
  exact (pss_cons (ps_if (pt_cmp (pc_dnotin hu (pv 1) (pe_fldC c_Post n_Post__parcels (pv 0)))) (pss_one (ps_raiseC rfl (takes_of rfl rfl rfl rfl) exc_Unknown gc_Unknown rfl)) pss_nil)
      (pss_one (ps_ret (pe_dget hu (pe_fldC c_Post n_Post__parcels (pv 0)) (pv 1) (fun _ _ => rfl)))))
theorem F_Post_lose (W : Wd w K mg) : FnP K "lose" "Post.lose" s_Post_lose (He.fAd K ("Post", some "lose")) (fdOf K (He.fAd K ("Post", some "lose"))) := let ⟨_, F⟩ := W.c.def_ 5 (d := d_Post_lose) rfl; fd_at F
theorem b_Post_lose (W : Wd w K mg) : Binds K (fdOf K (He.fAd K ("Post", some "lose"))) ["self", "number"] [] := (F_Post_lose W).bindsN fun _ _ _ _ _ _ us hl => match us, hl with | [_, _], _ => rfl
theorem sc_Post_lose : FnScope N_Post_lose ["self", "number"] (defScope s_Post_lose) := by walk_at "sc"
theorem ok_Post_lose (W : Wd w K mg) : FnOk P w K mg base (L2.CX P w) 1 (He.fAd K ("Post", some "lose")) (fdOf K (He.fAd K ("Post", some "lose"))) ["self", "number"] (sp_Post_lose ⟨K, P, w⟩) := by
  have c_Post := c_Post W
  have n_Post__parcels := n_Post__parcels W
  have exc_Unknown := exc_Unknown W
  have gc_Unknown := gc_Unknown W
  refine (F_Post_lose W).ok sc_Post_lose (fun vs H Q E h => by repeat (first | (obtain ⟨e, _⟩ := h; subst e; exact rfl) | obtain ⟨_, h⟩ := h)) (fun cdv A outer s H vs Q E hr h => ?_)
  have hu := hu_of hr
  refine ⟨t_Post_lose ⟨K, P, w⟩ (fun cls d _ H => E cls d H), ?_, pure_Post_lose vs H Q E h⟩
  exact (pss_cons (ps_if (pt_cmp (pc_dnotin hu (pv 1) (pe_fldC c_Post n_Post__parcels (pv 0)))) (pss_one (ps_raiseC rfl (takes_of rfl rfl rfl rfl) exc_Unknown gc_Unknown rfl)) pss_nil)
      (pss_one (ps_ddel (pe_fldC c_Post n_Post__parcels (pv 0)) (pv 1))))
theorem F_Post_numbers (W : Wd w K mg) : FnP K "numbers" "Post.numbers" s_Post_numbers (He.fAd K ("Post", some "numbers")) (fdOf K (He.fAd K ("Post", some "numbers"))) := let ⟨_, F⟩ := W.c.def_ 6 (d := d_Post_numbers) rfl; fd_at F
theorem b_Post_numbers (W : Wd w K mg) : Binds K (fdOf K (He.fAd K ("Post", some "numbers"))) ["self"] [] := (F_Post_numbers W).bindsN fun _ _ _ _ _ _ us hl => match us, hl with | [_], _ => rfl
theorem sc_Post_numbers : FnScope N_Post_numbers ["self"] (defScope s_Post_numbers) := by walk_at "sc"
theorem ok_Post_numbers (W : Wd w K mg) : FnOk P w K mg base CX0 1 (He.fAd K ("Post", some "numbers")) (fdOf K (He.fAd K ("Post", some "numbers"))) ["self"] (sp_Post_numbers ⟨K, P, w⟩) := by
  have c_Post := c_Post W
  have n_Post__parcels := n_Post__parcels W
  have f_sorted := f_sorted W
  refine (F_Post_numbers W).ok sc_Post_numbers (fun vs H Q E h => by repeat (first | (obtain ⟨e, _⟩ := h; subst e; exact rfl) | obtain ⟨_, h⟩ := h)) (fun cdv A outer s H vs Q E hr h => ?_)
  refine ⟨t_Post_numbers ⟨K, P, w⟩, PSs.nox ?_, pure_Post_numbers vs H Q E h⟩
  exact (pss_one (ps_ret (pe_callB (call_sortedDI rfl) (by rfl) f_sorted boot_sorted (pa_cons (pe_fldC c_Post n_Post__parcels (pv 0)) pa_nil))))
theorem F_Post___len__ (W : Wd w K mg) : FnP K "__len__" "Post.__len__" s_Post___len__ (He.fAd K ("Post", some "__len__")) (fdOf K (He.fAd K ("Post", some "__len__"))) := let ⟨_, F⟩ := W.c.def_ 7 (d := d_Post___len__) rfl; fd_at F
theorem b_Post___len__ (W : Wd w K mg) : Binds K (fdOf K (He.fAd K ("Post", some "__len__"))) ["self"] [] := (F_Post___len__ W).bindsN fun _ _ _ _ _ _ us hl => match us, hl with | [_], _ => rfl
theorem sc_Post___len__ : FnScope N_Post___len__ ["self"] (defScope s_Post___len__) := by walk_at "sc"
theorem ok_Post___len__ (W : Wd w K mg) : FnOk P w K mg base CX0 1 (He.fAd K ("Post", some "__len__")) (fdOf K (He.fAd K ("Post", some "__len__"))) ["self"] (sp_Post___len__ ⟨K, P, w⟩) := by
  have c_Post := c_Post W
  have n_Post__parcels := n_Post__parcels W
  have f_len := f_len W
  refine (F_Post___len__ W).ok sc_Post___len__ (fun vs H Q E h => by repeat (first | (obtain ⟨e, _⟩ := h; subst e; exact rfl) | obtain ⟨_, h⟩ := h)) (fun cdv A outer s H vs Q E hr h => ?_)
  refine ⟨t_Post___len__ ⟨K, P, w⟩, PSs.nox ?_, pure_Post___len__ vs H Q E h⟩
  exact (pss_one (ps_ret (pe_callB call_lenD (by rfl) f_len boot_len (pa_cons (pe_fldC c_Post n_Post__parcels (pv 0)) pa_nil))))
theorem F_Post___iter__ (W : Wd w K mg) : FnP K "__iter__" "Post.__iter__" s_Post___iter__ (He.fAd K ("Post", some "__iter__")) (fdOf K (He.fAd K ("Post", some "__iter__"))) := let ⟨_, F⟩ := W.c.def_ 8 (d := d_Post___iter__) rfl; fd_at F
theorem b_Post___iter__ (W : Wd w K mg) : Binds K (fdOf K (He.fAd K ("Post", some "__iter__"))) ["self"] [] := (F_Post___iter__ W).bindsN fun _ _ _ _ _ _ us hl => match us, hl with | [_], _ => rfl
theorem sc_Post___iter__ : FnScope N_Post___iter__ ["self"] (defScope s_Post___iter__) := by walk_at "sc"
theorem ok_Post___iter__ (W : Wd w K mg) : FnOkN P w K mg base 1 (He.fAd K ("Post", some "__iter__")) (fdOf K (He.fAd K ("Post", some "__iter__"))) ["self"] (fun n => sp_Post___iter__ ⟨K, P, w⟩ n) := by
  have c_Post := c_Post W
  have n_Post__parcels := n_Post__parcels W
  have f_iter := f_iter W
  refine LO.FunD.okN (F_Post___iter__ W) sc_Post___iter__ (fun n vs H Q E h => by repeat (first | (obtain ⟨e, _⟩ := h; subst e; exact rfl) | obtain ⟨_, h⟩ := h)) (fun cdv A outer s H vs Q E hr h => ?_)
  refine ⟨t_Post___iter__ ⟨K, P, w⟩ s.heap.objs.size, PSs.nox ?_, pure_Post___iter__ _ vs H Q E h⟩
  exact (pss_one (ps_ret (pe_callB call_iterD (by rfl) f_iter boot_iter (pa_cons (pe_fldC c_Post n_Post__parcels (pv 0)) pa_nil))))
theorem m__law_stream (W : Wd w K mg) : mg "_law_stream" = some (.ref (He.fAd K ("_law_stream", none))) := let ⟨_, X, G⟩ := W.hp; He.glo_ok X G (W.c.fact 57 (f := fun K => (He.Fa.glo "_law_stream").ok K) rfl)
theorem F__law_stream (W : Wd w K mg) : FnP K "_law_stream" "_law_stream" s__law_stream (He.fAd K ("_law_stream", none)) (fdOf K (He.fAd K ("_law_stream", none))) := let ⟨_, F⟩ := W.c.def_ 9 (d := d__law_stream) rfl; fd_at F
theorem b__law_stream (W : Wd w K mg) : Binds K (fdOf K (He.fAd K ("_law_stream", none))) ["_law_cell", "_law_k"] [] := (F__law_stream W).bindsN fun _ _ _ _ _ _ us hl => match us, hl with | [_, _], _ => rfl
theorem sc__law_stream : FnScope N__law_stream ["_law_cell", "_law_k"] (defScope s__law_stream) := by walk_at "sc"
theorem ok__law_stream (W : Wd w K mg) : FnOk P w K mg base CX0 1 (He.fAd K ("_law_stream", none)) (fdOf K (He.fAd K ("_law_stream", none))) ["_law_cell", "_law_k"] (sp__law_stream ⟨K, P, w⟩) := by
  have f_int := f_int W
  refine (F__law_stream W).ok sc__law_stream (fun vs H Q E h => by repeat (first | (obtain ⟨e, _⟩ := h; subst e; exact rfl) | obtain ⟨_, h⟩ := h)) (fun cdv A outer s H vs Q E hr h => ?_)
  refine ⟨t__law_stream ⟨K, P, w⟩, PSs.nox ?_, pure__law_stream vs H Q E h⟩
  exact (pss_cons (ps_set (i := 2) sc__law_stream.nd rfl (by first | exact Or.inl rfl | exact Or.inr rfl) pe_int)
      (pss_mid (ps_if (pt_cmpR op_ge (pv 0) (pe_op op_pow pe_int pe_int) (nomark _)) (pss_one (ps_set (i := 2) sc__law_stream.nd rfl (by first | exact Or.inl rfl | exact Or.inr rfl) (pv 0))) pss_nil)
      (pss_one (ps_ret (pe_lst (pa_cons (pv 2) (pa_cons (pe_op op_mod (pe_callTy call_int1 (by rfl) f_int boot_int (pa_cons (pe_op op_add (pe_op op_add (pe_op op_mul (pv 0) pe_int) (pe_op op_mul (pv 1) pe_int)) pe_int) pa_nil)) pe_int) pa_nil)))))))
theorem m__law_next (W : Wd w K mg) : mg "_law_next" = some (.ref (He.fAd K ("_law_next", none))) := let ⟨_, X, G⟩ := W.hp; He.glo_ok X G (W.c.fact 58 (f := fun K => (He.Fa.glo "_law_next").ok K) rfl)
theorem F__law_next (W : Wd w K mg) : FnP K "_law_next" "_law_next" s__law_next (He.fAd K ("_law_next", none)) (fdOf K (He.fAd K ("_law_next", none))) := let ⟨_, F⟩ := W.c.def_ 10 (d := d__law_next) rfl; fd_at F
theorem b__law_next (W : Wd w K mg) : Binds K (fdOf K (He.fAd K ("_law_next", none))) ["_law_stream_here", "_law_size"] [] := (F__law_next W).bindsN fun _ _ _ _ _ _ us hl => match us, hl with | [_, _], _ => rfl
theorem sc__law_next : FnScope N__law_next ["_law_stream_here", "_law_size"] (defScope s__law_next) := by walk_at "sc"
theorem ok__law_next (W : Wd w K mg) : FnOk P w K mg base CX0 1 (He.fAd K ("_law_next", none)) (fdOf K (He.fAd K ("_law_next", none))) ["_law_stream_here", "_law_size"] (sp__law_next ⟨K, P, w⟩) := by
  have f_int := f_int W
  refine (F__law_next W).ok sc__law_next (fun vs H Q E h => by repeat (first | (obtain ⟨e, _⟩ := h; subst e; exact rfl) | obtain ⟨_, h⟩ := h)) (fun cdv A outer s H vs Q E hr h => ?_)
  refine ⟨t__law_next ⟨K, P, w⟩, PSs.nox ?_, pure__law_next vs H Q E h⟩
  exact (pss_cons (ps_if (pt_cmpR op_gt (pe_ix ix_list (pv 0) pe_int (fun _ _ => rfl)) pe_int (nomark _)) (pss_cons (ps_set (i := 2) sc__law_next.nd rfl (by first | exact Or.inl rfl | exact Or.inr rfl) (pe_op op_mod (pe_callTy call_int1 (by rfl) f_int boot_int (pa_cons (pe_ix ix_list (pv 0) pe_int (fun _ _ => rfl)) pa_nil)) (pv 1)))
      (pss_cons (ps_asg (pe_op op_fdivW (pe_ix ix_list (pv 0) pe_int (fun _ _ => rfl)) (pv 1)) (pg_sub (pv 0) pe_int set_list))
      (pss_one (ps_ret (pv 2))))) pss_nil)
      (pss_cons (ps_asg (pe_op op_mod (pe_callTy call_int1 (by rfl) f_int boot_int (pa_cons (pe_op op_add (pe_op op_mul (pe_ix ix_list (pv 0) pe_int (fun _ _ => rfl)) pe_int) pe_int) pa_nil)) pe_int) (pg_sub (pv 0) pe_int set_list))
      (pss_one (ps_ret (pe_op op_mod (pe_callTy call_int1 (by rfl) f_int boot_int (pa_cons (pe_op op_fdivW (pe_op op_mod (pe_callTy call_int1 (by rfl) f_int boot_int (pa_cons (pe_op op_add (pe_op op_mul (pe_ix ix_list (pv 0) pe_int (fun _ _ => rfl)) pe_int) pe_int) pa_nil)) pe_int) pe_int) pa_nil)) (pv 1))))))
theorem m__law_is (W : Wd w K mg) : mg "_law_is" = some (.ref (He.fAd K ("_law_is", none))) := let ⟨_, X, G⟩ := W.hp; He.glo_ok X G (W.c.fact 59 (f := fun K => (He.Fa.glo "_law_is").ok K) rfl)
theorem F__law_is (W : Wd w K mg) : FnP K "_law_is" "_law_is" s__law_is (He.fAd K ("_law_is", none)) (fdOf K (He.fAd K ("_law_is", none))) := let ⟨_, F⟩ := W.c.def_ 11 (d := d__law_is) rfl; fd_at F
theorem b__law_is (W : Wd w K mg) : Binds K (fdOf K (He.fAd K ("_law_is", none))) ["_law_actual", "_law_due"] [] := (F__law_is W).bindsN fun _ _ _ _ _ _ us hl => match us, hl with | [_, _], _ => rfl
theorem sc__law_is : FnScope N__law_is ["_law_actual", "_law_due"] (defScope s__law_is) := by walk_at "sc"
theorem ok__law_is (W : Wd w K mg) : FnOk P w K mg base CX0 1 (He.fAd K ("_law_is", none)) (fdOf K (He.fAd K ("_law_is", none))) ["_law_actual", "_law_due"] (sp__law_is ⟨K, P, w⟩) := by
  have f_bool := f_bool W
  have f_int := f_int W
  have f_isinstance := f_isinstance W
  refine (F__law_is W).ok sc__law_is (fun vs H Q E h => by repeat (first | (obtain ⟨e, _⟩ := h; subst e; exact rfl) | obtain ⟨_, h⟩ := h)) (fun cdv A outer s H vs Q E hr h => ?_)
  refine ⟨t__law_is ⟨K, P, w⟩, PSs.nox ?_, pure__law_is vs H Q E h⟩
  exact (pss_one (ps_ret (pe_and (pe_callB call_isi (by rfl) f_isinstance boot_isinstance (pa_cons (pv 0) (pa_cons (pe_bltn rfl f_int boot_int rfl) pa_nil))) (pe_and (pe_not (pe_callB call_isi (by rfl) f_isinstance boot_isinstance (pa_cons (pv 0) (pa_cons (pe_bltn rfl f_bool boot_bool rfl) pa_nil)))) (pe_one (pe_cmpR op_eq (pv 0) (pv 1) (nomark _)))))))
theorem m_is_text (W : Wd w K mg) : mg "is_text" = some (.ref (He.fAd K ("is_text", none))) := let ⟨_, X, G⟩ := W.hp; He.glo_ok X G (W.c.fact 60 (f := fun K => (He.Fa.glo "is_text").ok K) rfl)
theorem F_is_text (W : Wd w K mg) : FnP K "is_text" "is_text" s_is_text (He.fAd K ("is_text", none)) (fdOf K (He.fAd K ("is_text", none))) := let ⟨_, F⟩ := W.c.def_ 12 (d := d_is_text) rfl; fd_at F
theorem b_is_text (W : Wd w K mg) : Binds K (fdOf K (He.fAd K ("is_text", none))) ["thing"] [] := (F_is_text W).bindsN fun _ _ _ _ _ _ us hl => match us, hl with | [_], _ => rfl
theorem sc_is_text : FnScope N_is_text ["thing"] (defScope s_is_text) := by walk_at "sc"
theorem ok_is_text (W : Wd w K mg) : FnOk P w K mg base CX0 2 (He.fAd K ("is_text", none)) (fdOf K (He.fAd K ("is_text", none))) ["thing"] (sp_is_text ⟨K, P, w⟩) := by
  have G_is_plain := ok_is_plain (P := P) (w := w) (base := base) W
  have m_is_plain := m_is_plain W
  have b_is_plain := b_is_plain W
  have k_is_plain := (F_is_plain W).kp
  have f_isinstance := f_isinstance W
  have f_len := f_len W
  have f_str := f_str W
  obtain ⟨_, g_LONGEST_TEXT⟩ := g_LONGEST_TEXT W
  refine LO.FunD.okT (F_is_text W) sc_is_text (by decide +kernel) (by decide) (fun vs H Q E h => by repeat (first | (obtain ⟨e, _⟩ := h; subst e; exact rfl) | obtain ⟨_, h⟩ := h)) (fun cdv A outer s H vs Q E hr h => ?_)
  have hr_is_plain : Room 1 _ := hr.mono (by decide)
  refine ⟨t_is_text ⟨K, P, w⟩, ?_, pure_is_text vs H Q E h⟩
  exact (psst_cons (PST.of (ps_if (PW.pt (pw_or (pt_not (pt_val (pe_callB call_isi (by rfl) f_isinstance boot_isinstance (pa_cons (pv 0) (pa_cons (pe_bltn rfl f_str boot_str rfl) pa_nil))))) (pw_or1 (pt_not (pt_chain op_le op_le pe_int (pe_callB call_len (by rfl) f_len boot_len (pa_cons (pv 0) pa_nil)) (pe_glob rfl g_LONGEST_TEXT ⟨_, rfl⟩)))))) (pss_one (ps_ret pe_bl)) pss_nil)) (psst_one (pst_ret (pet_call G_is_plain hr_is_plain rfl m_is_plain k_is_plain b_is_plain pass0 (pat_cons (pet_repl (pv 0)) pat_nil)))))
theorem m_is_title (W : Wd w K mg) : mg "is_title" = some (.ref (He.fAd K ("is_title", none))) := let ⟨_, X, G⟩ := W.hp; He.glo_ok X G (W.c.fact 61 (f := fun K => (He.Fa.glo "is_title").ok K) rfl)
theorem F_is_title (W : Wd w K mg) : FnP K "is_title" "is_title" s_is_title (He.fAd K ("is_title", none)) (fdOf K (He.fAd K ("is_title", none))) := let ⟨_, F⟩ := W.c.def_ 13 (d := d_is_title) rfl; fd_at F
theorem b_is_title (W : Wd w K mg) : Binds K (fdOf K (He.fAd K ("is_title", none))) ["thing"] [] := (F_is_title W).bindsN fun _ _ _ _ _ _ us hl => match us, hl with | [_], _ => rfl
theorem sc_is_title : FnScope N_is_title ["thing"] (defScope s_is_title) := by walk_at "sc"
theorem ok_is_title (W : Wd w K mg) : FnOk P w K mg base CX0 2 (He.fAd K ("is_title", none)) (fdOf K (He.fAd K ("is_title", none))) ["thing"] (sp_is_title ⟨K, P, w⟩) := by
  have G_is_plain := ok_is_plain (P := P) (w := w) (base := base) W
  have m_is_plain := m_is_plain W
  have b_is_plain := b_is_plain W
  have k_is_plain := (F_is_plain W).kp
  have f_isinstance := f_isinstance W
  have f_len := f_len W
  have f_str := f_str W
  obtain ⟨_, g_LONGEST_TITLE⟩ := g_LONGEST_TITLE W
  refine (F_is_title W).ok sc_is_title (fun vs H Q E h => by repeat (first | (obtain ⟨e, _⟩ := h; subst e; exact rfl) | obtain ⟨_, h⟩ := h)) (fun cdv A outer s H vs Q E hr h => ?_)
  have hr_is_plain : Room 1 _ := hr.mono (by decide)
  refine ⟨t_is_title ⟨K, P, w⟩, PSs.nox ?_, pure_is_title vs H Q E h⟩
  exact (pss_one (ps_ret (pe_and (pe_callB call_isi (by rfl) f_isinstance boot_isinstance (pa_cons (pv 0) (pa_cons (pe_bltn rfl f_str boot_str rfl) pa_nil))) (pe_and (pe_cmpR op_le (pe_callB call_len (by rfl) f_len boot_len (pa_cons (pv 0) pa_nil)) (pe_glob rfl g_LONGEST_TITLE ⟨_, rfl⟩) (nomark _)) (pe_one (pe_call G_is_plain hr_is_plain rfl m_is_plain k_is_plain b_is_plain .nil pass0 (pa_cons (pv 0) pa_nil)))))))
theorem m_is_ref (W : Wd w K mg) : mg "is_ref" = some (.ref (He.fAd K ("is_ref", none))) := let ⟨_, X, G⟩ := W.hp; He.glo_ok X G (W.c.fact 62 (f := fun K => (He.Fa.glo "is_ref").ok K) rfl)
theorem F_is_ref (W : Wd w K mg) : FnP K "is_ref" "is_ref" s_is_ref (He.fAd K ("is_ref", none)) (fdOf K (He.fAd K ("is_ref", none))) := let ⟨_, F⟩ := W.c.def_ 14 (d := d_is_ref) rfl; fd_at F
theorem b_is_ref (W : Wd w K mg) : Binds K (fdOf K (He.fAd K ("is_ref", none))) ["thing"] [] := (F_is_ref W).bindsN fun _ _ _ _ _ _ us hl => match us, hl with | [_], _ => rfl
theorem sc_is_ref : FnScope N_is_ref ["thing"] (defScope s_is_ref) := by walk_at "sc"
theorem ok_is_ref (W : Wd w K mg) : FnOk P w K mg base CX0 2 (He.fAd K ("is_ref", none)) (fdOf K (He.fAd K ("is_ref", none))) ["thing"] (sp_is_ref ⟨K, P, w⟩) := by
  have G_is_name := ok_is_name (P := P) (w := w) (base := base) W
  have m_is_name := m_is_name W
  have b_is_name := b_is_name W
  have k_is_name := (F_is_name W).kp
  have G_is_number := ok_is_number (P := P) (w := w) (base := base) W
  have m_is_number := m_is_number W
  have b_is_number := b_is_number W
  have k_is_number := (F_is_number W).kp
  have f_isinstance := f_isinstance W
  have f_len := f_len W
  have f_tuple := f_tuple W
  refine (F_is_ref W).ok sc_is_ref (fun vs H Q E h => by repeat (first | (obtain ⟨e, _⟩ := h; subst e; exact rfl) | obtain ⟨_, h⟩ := h)) (fun cdv A outer s H vs Q E hr h => ?_)
  have hr_is_name : Room 1 _ := hr.mono (by decide)
  have hr_is_number : Room 1 _ := hr.mono (by decide)
  refine ⟨t_is_ref ⟨K, P, w⟩, PSs.nox ?_, pure_is_ref vs H Q E h⟩
  exact (pss_one (ps_ret (pe_and (pe_callB call_isi (by rfl) f_isinstance boot_isinstance (pa_cons (pv 0) (pa_cons (pe_bltn rfl f_tuple boot_tuple rfl) pa_nil))) (pe_and (pe_cmpR op_eq (pe_callB call_len (by rfl) f_len boot_len (pa_cons (pv 0) pa_nil)) pe_int (nomark _)) (pe_and (pe_call G_is_name hr_is_name rfl m_is_name k_is_name b_is_name .nil pass0 (pa_cons (pe_ix ix_tup (pv 0) pe_int (fun _ _ => rfl)) pa_nil)) (pe_one (pe_call G_is_number hr_is_number rfl m_is_number k_is_number b_is_number .nil pass0 (pa_cons (pe_ix ix_tup (pv 0) pe_int (fun _ _ => rfl)) pa_nil))))))))
theorem m_is_room (W : Wd w K mg) : mg "is_room" = some (.ref (He.fAd K ("is_room", none))) := let ⟨_, X, G⟩ := W.hp; He.glo_ok X G (W.c.fact 63 (f := fun K => (He.Fa.glo "is_room").ok K) rfl)
theorem F_is_room (W : Wd w K mg) : FnP K "is_room" "is_room" s_is_room (He.fAd K ("is_room", none)) (fdOf K (He.fAd K ("is_room", none))) := let ⟨_, F⟩ := W.c.def_ 15 (d := d_is_room) rfl; fd_at F
theorem b_is_room (W : Wd w K mg) : Binds K (fdOf K (He.fAd K ("is_room", none))) ["thing"] [] := (F_is_room W).bindsN fun _ _ _ _ _ _ us hl => match us, hl with | [_], _ => rfl
theorem sc_is_room : FnScope N_is_room ["thing"] (defScope s_is_room) := by walk_at "sc"
theorem ok_is_room (W : Wd w K mg) : FnOk P w K mg base CX0 2 (He.fAd K ("is_room", none)) (fdOf K (He.fAd K ("is_room", none))) ["thing"] (sp_is_room ⟨K, P, w⟩) := by
  have G_is_name := ok_is_name (P := P) (w := w) (base := base) W
  have m_is_name := m_is_name W
  have b_is_name := b_is_name W
  have k_is_name := (F_is_name W).kp
  have f_isinstance := f_isinstance W
  have f_len := f_len W
  have f_tuple := f_tuple W
  refine (F_is_room W).ok sc_is_room (fun vs H Q E h => by repeat (first | (obtain ⟨e, _⟩ := h; subst e; exact rfl) | obtain ⟨_, h⟩ := h)) (fun cdv A outer s H vs Q E hr h => ?_)
  have hr_is_name : Room 1 _ := hr.mono (by decide)
  refine ⟨t_is_room ⟨K, P, w⟩, PSs.nox ?_, pure_is_room vs H Q E h⟩
  exact (pss_one (ps_ret (pe_and (pe_callB call_isi (by rfl) f_isinstance boot_isinstance (pa_cons (pv 0) (pa_cons (pe_bltn rfl f_tuple boot_tuple rfl) pa_nil))) (pe_and (pe_cmpR op_eq (pe_callB call_len (by rfl) f_len boot_len (pa_cons (pv 0) pa_nil)) pe_int (nomark _)) (pe_and (pe_call G_is_name hr_is_name rfl m_is_name k_is_name b_is_name .nil pass0 (pa_cons (pe_ix ix_tup (pv 0) pe_int (fun _ _ => rfl)) pa_nil)) (pe_one (pe_call G_is_name hr_is_name rfl m_is_name k_is_name b_is_name .nil pass0 (pa_cons (pe_ix ix_tup (pv 0) pe_int (fun _ _ => rfl)) pa_nil))))))))
theorem m_is_members (W : Wd w K mg) : mg "is_members" = some (.ref (He.fAd K ("is_members", none))) := let ⟨_, X, G⟩ := W.hp; He.glo_ok X G (W.c.fact 64 (f := fun K => (He.Fa.glo "is_members").ok K) rfl)
theorem F_is_members (W : Wd w K mg) : FnP K "is_members" "is_members" s_is_members (He.fAd K ("is_members", none)) (fdOf K (He.fAd K ("is_members", none))) := let ⟨_, F⟩ := W.c.def_ 16 (d := d_is_members) rfl; fd_at F
theorem b_is_members (W : Wd w K mg) : Binds K (fdOf K (He.fAd K ("is_members", none))) ["thing"] [] := (F_is_members W).bindsN fun _ _ _ _ _ _ us hl => match us, hl with | [_], _ => rfl
theorem sc_is_members : FnScope N_is_members ["thing"] (defScope s_is_members) := by walk_at "sc"
theorem ok_is_members (W : Wd w K mg) : FnOk P w K mg base CX0 2 (He.fAd K ("is_members", none)) (fdOf K (He.fAd K ("is_members", none))) ["thing"] (sp_is_members ⟨K, P, w⟩) := by
  have G_is_name := ok_is_name (P := P) (w := w) (base := base) W
  have m_is_name := m_is_name W
  have b_is_name := b_is_name W
  have k_is_name := (F_is_name W).kp
  have f_enumerate := f_enumerate W
  have f_isinstance := f_isinstance W
  have f_len := f_len W
  have f_tuple := f_tuple W
  obtain ⟨_, g_MOST_MEMBERS⟩ := g_MOST_MEMBERS W
  refine (F_is_members W).ok sc_is_members (fun vs H Q E h => by repeat (first | (obtain ⟨e, _⟩ := h; subst e; exact rfl) | obtain ⟨_, h⟩ := h)) (fun cdv A outer s H vs Q E hr h => ?_)
  have hr_is_name : Room 1 _ := hr.mono (by decide)
  refine ⟨t_is_members ⟨K, P, w⟩, PSs.nox ?_, pure_is_members vs H Q E h⟩
  exact (pss_cons (ps_if (PW.pt (pw_or (pt_not (pt_val (pe_callB call_isi (by rfl) f_isinstance boot_isinstance (pa_cons (pv 0) (pa_cons (pe_bltn rfl f_tuple boot_tuple rfl) pa_nil))))) (pw_or1 (pt_cmpR op_gt (pe_callB call_len (by rfl) f_len boot_len (pa_cons (pv 0) pa_nil)) (pe_glob rfl g_MOST_MEMBERS ⟨_, rfl⟩) (nomark _))))) (pss_one (ps_ret pe_bl)) pss_nil)
      (pss_cons (ps_for PassesOwn.never rfl (pi_enumT rfl f_enumerate (pa_cons (pv 0) pa_nil)) (pg_tup rfl (pgs_cons (pg_name (i := 1) sc_is_members.nd rfl (by first | exact Or.inl rfl | exact Or.inr rfl)) (pgs_cons (pg_name (i := 2) sc_is_members.nd rfl (by first | exact Or.inl rfl | exact Or.inr rfl)) pgs_nil))) (pss_cons (ps_if (pt_not (pt_val (pe_call G_is_name hr_is_name rfl m_is_name k_is_name b_is_name .nil pass0 (pa_cons (pv 2) pa_nil)))) (pss_one (ps_ret pe_bl)) pss_nil)
      (pss_one (ps_if (PW.pt (pw_and (pt_cmpR op_gt (pv 1) pe_int (nomark _)) (pw_and1 (pt_cmpR op_le_str (pv 2) (pe_ix ix_tup (pv 0) (pe_op op_sub (pv 1) pe_int) (fun _ _ => rfl)) (nomark _))))) (pss_one (ps_ret pe_bl)) pss_nil))))
      (pss_one (ps_ret pe_bl))))
theorem m_is_pair (W : Wd w K mg) : mg "is_pair" = some (.ref (He.fAd K ("is_pair", none))) := let ⟨_, X, G⟩ := W.hp; He.glo_ok X G (W.c.fact 65 (f := fun K => (He.Fa.glo "is_pair").ok K) rfl)
theorem F_is_pair (W : Wd w K mg) : FnP K "is_pair" "is_pair" s_is_pair (He.fAd K ("is_pair", none)) (fdOf K (He.fAd K ("is_pair", none))) := let ⟨_, F⟩ := W.c.def_ 17 (d := d_is_pair) rfl; fd_at F
theorem b_is_pair (W : Wd w K mg) : Binds K (fdOf K (He.fAd K ("is_pair", none))) ["thing"] [] := (F_is_pair W).bindsN fun _ _ _ _ _ _ us hl => match us, hl with | [_], _ => rfl
theorem sc_is_pair : FnScope N_is_pair ["thing"] (defScope s_is_pair) := by walk_at "sc"
theorem ok_is_pair (W : Wd w K mg) : FnOk P w K mg base CX0 2 (He.fAd K ("is_pair", none)) (fdOf K (He.fAd K ("is_pair", none))) ["thing"] (sp_is_pair ⟨K, P, w⟩) := by
  have G_is_name := ok_is_name (P := P) (w := w) (base := base) W
  have m_is_name := m_is_name W
  have b_is_name := b_is_name W
  have k_is_name := (F_is_name W).kp
  have G_is_number := ok_is_number (P := P) (w := w) (base := base) W
  have m_is_number := m_is_number W
  have b_is_number := b_is_number W
  have k_is_number := (F_is_number W).kp
  have f_isinstance := f_isinstance W
  have f_len := f_len W
  have f_tuple := f_tuple W
  refine (F_is_pair W).ok sc_is_pair (fun vs H Q E h => by repeat (first | (obtain ⟨e, _⟩ := h; subst e; exact rfl) | obtain ⟨_, h⟩ := h)) (fun cdv A outer s H vs Q E hr h => ?_)
  have hr_is_name : Room 1 _ := hr.mono (by decide)
  have hr_is_number : Room 1 _ := hr.mono (by decide)
  refine ⟨t_is_pair ⟨K, P, w⟩, PSs.nox ?_, pure_is_pair vs H Q E h⟩
  exact (pss_one (ps_ret (pe_and (pe_callB call_isi (by rfl) f_isinstance boot_isinstance (pa_cons (pv 0) (pa_cons (pe_bltn rfl f_tuple boot_tuple rfl) pa_nil))) (pe_and (pe_cmpR op_eq (pe_callB call_len (by rfl) f_len boot_len (pa_cons (pv 0) pa_nil)) pe_int (nomark _)) (pe_and (pe_call G_is_name hr_is_name rfl m_is_name k_is_name b_is_name .nil pass0 (pa_cons (pe_ix ix_tup (pv 0) pe_int (fun _ _ => rfl)) pa_nil)) (pe_one (pe_call G_is_number hr_is_number rfl m_is_number k_is_number b_is_number .nil pass0 (pa_cons (pe_ix ix_tup (pv 0) pe_int (fun _ _ => rfl)) pa_nil))))))))
theorem m__law_name (W : Wd w K mg) : mg "_law_name" = some (.ref (He.fAd K ("_law_name", none))) := let ⟨_, X, G⟩ := W.hp; He.glo_ok X G (W.c.fact 66 (f := fun K => (He.Fa.glo "_law_name").ok K) rfl)
theorem F__law_name (W : Wd w K mg) : FnP K "_law_name" "_law_name" s__law_name (He.fAd K ("_law_name", none)) (fdOf K (He.fAd K ("_law_name", none))) := let ⟨_, F⟩ := W.c.def_ 18 (d := d__law_name) rfl; fd_at F
theorem b__law_name (W : Wd w K mg) : Binds K (fdOf K (He.fAd K ("_law_name", none))) ["_law_stream_here"] [] := (F__law_name W).bindsN fun _ _ _ _ _ _ us hl => match us, hl with | [_], _ => rfl
theorem sc__law_name : FnScope N__law_name ["_law_stream_here"] (defScope s__law_name) := by walk_at "sc"
theorem ok__law_name (W : Wd w K mg) : FnOk P w K mg base CX0 2 (He.fAd K ("_law_name", none)) (fdOf K (He.fAd K ("_law_name", none))) ["_law_stream_here"] (sp__law_name ⟨K, P, w⟩) := by
  have G__law_next := ok__law_next (P := P) (w := w) (base := base) W
  have m__law_next := m__law_next W
  have b__law_next := b__law_next W
  have k__law_next := (F__law_next W).kp
  have f_range := f_range W
  refine (F__law_name W).ok sc__law_name (fun vs H Q E h => by repeat (first | (obtain ⟨e, _⟩ := h; subst e; exact rfl) | obtain ⟨_, h⟩ := h)) (fun cdv A outer s H vs Q E hr h => ?_)
  have hr__law_next : Room 1 _ := hr.mono (by decide)
  refine ⟨t__law_name ⟨K, P, w⟩, PSs.nox ?_, pure__law_name vs H Q E h⟩
  exact (pss_cons (ps_set (i := 1) sc__law_name.nd rfl (by first | exact Or.inl rfl | exact Or.inr rfl) pe_str)
      (pss_cons (ps_set (i := 2) sc__law_name.nd rfl (by first | exact Or.inl rfl | exact Or.inr rfl) (pe_op op_add pe_int (pe_call G__law_next hr__law_next rfl m__law_next k__law_next b__law_next .nil pass0 (pa_cons (pv 0) (pa_cons pe_int pa_nil)))))
      (pss_cons (ps_set (i := 3) sc__law_name.nd rfl (by first | exact Or.inl rfl | exact Or.inr rfl) (pe_ix ix_str (pv 1) (pe_call G__law_next hr__law_next rfl m__law_next k__law_next b__law_next .nil pass0 (pa_cons (pv 0) (pa_cons pe_int pa_nil))) (fun _ _ => rfl)))
      (pss_cons (ps_for PassesOwn.never rfl (pi_range1 rfl f_range (pa_cons (pe_op op_sub (pv 2) pe_int) pa_nil)) (pg_name (i := 4) sc__law_name.nd rfl (by first | exact Or.inl rfl | exact Or.inr rfl)) (pss_one (ps_set (i := 3) sc__law_name.nd rfl (by first | exact Or.inl rfl | exact Or.inr rfl) (pe_op op_add_str (pv 3) (pe_ix ix_str (pv 1) (pe_call G__law_next hr__law_next rfl m__law_next k__law_next b__law_next .nil pass0 (pa_cons (pv 0) (pa_cons pe_int pa_nil))) (fun _ _ => rfl))))))
      (pss_one (ps_ret (pv 3)))))))
theorem m__law_odd (W : Wd w K mg) : mg "_law_odd" = some (.ref (He.fAd K ("_law_odd", none))) := let ⟨_, X, G⟩ := W.hp; He.glo_ok X G (W.c.fact 67 (f := fun K => (He.Fa.glo "_law_odd").ok K) rfl)
theorem F__law_odd (W : Wd w K mg) : FnP K "_law_odd" "_law_odd" s__law_odd (He.fAd K ("_law_odd", none)) (fdOf K (He.fAd K ("_law_odd", none))) := let ⟨_, F⟩ := W.c.def_ 19 (d := d__law_odd) rfl; fd_at F
theorem b__law_odd (W : Wd w K mg) : Binds K (fdOf K (He.fAd K ("_law_odd", none))) ["_law_stream_here", "_law_parcel_here"] [] := (F__law_odd W).bindsN fun _ _ _ _ _ _ us hl => match us, hl with | [_, _], _ => rfl
theorem sc__law_odd : FnScope N__law_odd ["_law_stream_here", "_law_parcel_here"] (defScope s__law_odd) := by walk_at "sc"
theorem ok__law_odd (W : Wd w K mg) : FnOk P w K mg base CX0 2 (He.fAd K ("_law_odd", none)) (fdOf K (He.fAd K ("_law_odd", none))) ["_law_stream_here", "_law_parcel_here"] (sp__law_odd ⟨K, P, w⟩) := by
  have G__law_next := ok__law_next (P := P) (w := w) (base := base) W
  have m__law_next := m__law_next W
  have b__law_next := b__law_next W
  have k__law_next := (F__law_next W).kp
  have f_list := f_list W
  refine (F__law_odd W).ok sc__law_odd (fun vs H Q E h => by repeat (first | (obtain ⟨e, _⟩ := h; subst e; exact rfl) | obtain ⟨_, h⟩ := h)) (fun cdv A outer s H vs Q E hr h => ?_)
  have hr__law_next : Room 1 _ := hr.mono (by decide)
  refine ⟨t__law_odd ⟨K, P, w⟩, PSs.nox ?_, pure__law_odd vs H Q E h⟩
  exact (pss_cons (ps_set (i := 2) sc__law_odd.nd rfl (by first | exact Or.inl rfl | exact Or.inr rfl) (pe_lst (pa_cons pe_non (pa_cons pe_int (pa_cons pe_str (pa_cons pe_str (pa_cons (pe_tup (pa_cons pe_str pa_nil)) (pa_cons pe_str (pa_cons pe_str (pa_cons pe_bl pa_nil))))))))))
      (pss_cons (ps_set (i := 3) sc__law_odd.nd rfl (by first | exact Or.inl rfl | exact Or.inr rfl) (pe_lst (pa_cons pe_non (pa_cons (pe_slice sl_tup (pv 1) po_none (po_some pe_int)) (pa_cons (pe_callTy call_list_of (by rfl) f_list boot_list (pa_cons (pv 1) pa_nil)) (pa_cons (pe_ix ix_tup (pv 1) pe_int (fun _ _ => rfl)) (pa_cons (pe_tup (pa_cons pe_str (pa_cons (pe_ix ix_tup (pv 1) pe_int (fun _ _ => rfl)) (pa_cons pe_non pa_nil)))) (pa_cons (pe_tup (pa_cons pe_str (pa_cons (pe_ix ix_tup (pv 1) pe_int (fun _ _ => rfl)) (pa_cons (pe_tup pa_nil) pa_nil)))) (pa_cons (pe_tup pa_nil) (pa_cons pe_int pa_nil))))))))))
      (pss_cons (ps_set (i := 4) sc__law_odd.nd rfl (by first | exact Or.inl rfl | exact Or.inr rfl) (pe_lst (pa_cons (pe_ix ix_list (pv 2) (pe_call G__law_next hr__law_next rfl m__law_next k__law_next b__law_next .nil pass0 (pa_cons (pv 0) (pa_cons pe_int pa_nil))) (fun _ _ => rfl)) (pa_cons (pe_ix ix_list (pv 3) (pe_call G__law_next hr__law_next rfl m__law_next k__law_next b__law_next .nil pass0 (pa_cons (pv 0) (pa_cons pe_int pa_nil))) (fun _ _ => rfl)) pa_nil))))
      (pss_one (ps_ret (pv 4))))))
theorem m__law_asked (W : Wd w K mg) : mg "_law_asked" = some (.ref (He.fAd K ("_law_asked", none))) := let ⟨_, X, G⟩ := W.hp; He.glo_ok X G (W.c.fact 68 (f := fun K => (He.Fa.glo "_law_asked").ok K) rfl)
theorem F__law_asked (W : Wd w K mg) : FnP K "_law_asked" "_law_asked" s__law_asked (He.fAd K ("_law_asked", none)) (fdOf K (He.fAd K ("_law_asked", none))) := let ⟨_, F⟩ := W.c.def_ 20 (d := d__law_asked) rfl; fd_at F
theorem b__law_asked (W : Wd w K mg) : Binds K (fdOf K (He.fAd K ("_law_asked", none))) ["_law_post", "_law_number", "_law_loses"] [] := (F__law_asked W).bindsN fun _ _ _ _ _ _ us hl => match us, hl with | [_, _, _], _ => rfl
theorem sc__law_asked : FnScope N__law_asked ["_law_post", "_law_number", "_law_loses"] (defScope s__law_asked) := by walk_at "sc"
theorem ok__law_asked (W : Wd w K mg) : FnOk P w K mg base CX0 2 (He.fAd K ("_law_asked", none)) (fdOf K (He.fAd K ("_law_asked", none))) ["_law_post", "_law_number", "_law_loses"] (sp__law_asked ⟨K, P, w⟩) := by
  have G_Post_lose := ok_Post_lose (P := P) (w := w) (base := base) W
  have b_Post_lose := b_Post_lose W
  have k_Post_lose := (F_Post_lose W).kp
  have G_Post_parcel := ok_Post_parcel (P := P) (w := w) (base := base) W
  have b_Post_parcel := b_Post_parcel W
  have k_Post_parcel := (F_Post_parcel W).kp
  have c_Post := c_Post W
  have mt_Post_lose := mt_Post_lose W
  have mt_Post_parcel := mt_Post_parcel W
  have gc_Unknown := gc_Unknown W
  have ext_4 := ext_4 W
  have gc_RoomError := gc_RoomError W
  have is1_2 := is1_2 W
  have is1_3 := is1_3 W
  have gc_BadValue := gc_BadValue W
  have is1_5 := is1_5 W
  have f_ValueError := f_ValueError W
  have f_isinstance := f_isinstance W
  refine (F__law_asked W).ok sc__law_asked (fun vs H Q E h => by repeat (first | (obtain ⟨e, _⟩ := h; subst e; exact rfl) | obtain ⟨_, h⟩ := h)) (fun cdv A outer s H vs Q E hr h => ?_)
  have hr_Post_lose : Room 1 _ := hr.mono (by decide)
  have hr_Post_parcel : Room 1 _ := hr.mono (by decide)
  refine ⟨t__law_asked ⟨K, P, w⟩, PSs.nox ?_, pure__law_asked vs H Q E h⟩
  exact (pss_cons (ps_try_asT (c := "Unknown") (tbl := [("BadBody", false), ("BadLetter", false), ("BadMail", false), ("BadValue", false), ("Contradiction", false), ("Down", false), ("Exists", false), ("NotKeeper", false), ("NotMember", false), ("Unknown", true)]) (i := 3) ext_4 rfl rfl sc__law_asked.nd rfl rfl (by exact ⟨rfl, by decide, .inl gc_Unknown⟩) takes_W0 (fun W1 pn1 xe1 tk1 p1 => (pss_cons (ps_if (pt_val (pv 2)) (pss_one (ps_ret (pe_methS (pv 0) c_Post mt_Post_lose G_Post_lose hr_Post_lose b_Post_lose (fun σ => passAt tk1 σ) (pa_cons (pv 1) pa_nil)))) pss_nil)
      (pss_one (ps_ret (pe_methS (pv 0) c_Post mt_Post_parcel G_Post_parcel hr_Post_parcel b_Post_parcel (fun σ => passAt tk1 σ) (pa_cons (pv 1) pa_nil)))))) (fun sa1 oe1 scls1 sd1 pn1 hz hf => (pss_one (ps_if (PW.pt (pw_and (pt_val (pe_callB (call_isE1 (c := (.own "RoomError")) (tbl := [("BadBody", true), ("BadLetter", true), ("BadMail", true), ("BadValue", true), ("Contradiction", true), ("Down", true), ("Exists", true), ("NotKeeper", true), ("NotMember", true), ("Unknown", true)]) is1_2 hz hf) (by rfl) f_isinstance boot_isinstance (pa_cons (pv 3) (pa_cons (pe_glob rfl gc_RoomError rfl) pa_nil)))) (pw_and (pt_val (pe_callB (call_isE1 (c := (.ty "ValueError")) (tbl := [("BadBody", true), ("BadLetter", true), ("BadMail", true), ("BadValue", true), ("Contradiction", true), ("Down", true), ("Exists", true), ("NotKeeper", true), ("NotMember", true), ("Unknown", true)]) is1_3 hz hf) (by rfl) f_isinstance boot_isinstance (pa_cons (pv 3) (pa_cons (pe_bltn rfl f_ValueError (by decide +kernel) rfl) pa_nil)))) (pw_and1 (pt_not (pt_val (pe_callB (call_isE1 (c := (.own "BadValue")) (tbl := [("BadBody", false), ("BadLetter", false), ("BadMail", false), ("BadValue", true), ("Contradiction", false), ("Down", false), ("Exists", false), ("NotKeeper", false), ("NotMember", false), ("Unknown", false)]) is1_5 hz hf) (by rfl) f_isinstance boot_isinstance (pa_cons (pv 3) (pa_cons (pe_glob rfl gc_BadValue rfl) pa_nil))))))))) (pss_one (ps_ret (pe_tup (pa_cons pe_str (pa_cons pe_str pa_nil))))) pss_nil))))
      (pss_one (ps_ret (pe_tup (pa_cons pe_str (pa_cons pe_str pa_nil))))))
theorem m_is_body (W : Wd w K mg) : mg "is_body" = some (.ref (He.fAd K ("is_body", none))) := let ⟨_, X, G⟩ := W.hp; He.glo_ok X G (W.c.fact 69 (f := fun K => (He.Fa.glo "is_body").ok K) rfl)
theorem F_is_body (W : Wd w K mg) : FnP K "is_body" "is_body" s_is_body (He.fAd K ("is_body", none)) (fdOf K (He.fAd K ("is_body", none))) := let ⟨_, F⟩ := W.c.def_ 21 (d := d_is_body) rfl; fd_at F
theorem b_is_body (W : Wd w K mg) : Binds K (fdOf K (He.fAd K ("is_body", none))) ["thing"] [] := (F_is_body W).bindsN fun _ _ _ _ _ _ us hl => match us, hl with | [_], _ => rfl
theorem sc_is_body : FnScope N_is_body ["thing"] (defScope s_is_body) := by walk_at "sc"
theorem ok_is_body (W : Wd w K mg) : FnOk P w K mg base CX0 3 (He.fAd K ("is_body", none)) (fdOf K (He.fAd K ("is_body", none))) ["thing"] (sp_is_body ⟨K, P, w⟩) := by
  have G_is_title := ok_is_title (P := P) (w := w) (base := base) W
  have m_is_title := m_is_title W
  have b_is_title := b_is_title W
  have k_is_title := (F_is_title W).kp
  have G_is_members := ok_is_members (P := P) (w := w) (base := base) W
  have m_is_members := m_is_members W
  have b_is_members := b_is_members W
  have k_is_members := (F_is_members W).kp
  have G_is_ref := ok_is_ref (P := P) (w := w) (base := base) W
  have m_is_ref := m_is_ref W
  have b_is_ref := b_is_ref W
  have k_is_ref := (F_is_ref W).kp
  have G_is_text := ok_is_text (P := P) (w := w) (base := base) W
  have m_is_text := m_is_text W
  have b_is_text := b_is_text W
  have k_is_text := (F_is_text W).kp
  have G_is_name := ok_is_name (P := P) (w := w) (base := base) W
  have m_is_name := m_is_name W
  have b_is_name := b_is_name W
  have k_is_name := (F_is_name W).kp
  have tb_PARTS := tb_PARTS W
  have kd_PARTS := kd_PARTS W
  have gd_PARTS := gd_PARTS W
  have f_isinstance := f_isinstance W
  have f_len := f_len W
  have f_str := f_str W
  have f_tuple := f_tuple W
  refine (F_is_body W).ok sc_is_body (fun vs H Q E h => by repeat (first | (obtain ⟨e, _⟩ := h; subst e; exact rfl) | obtain ⟨_, h⟩ := h)) (fun cdv A outer s H vs Q E hr h => ?_)
  have hr_is_members : Room 2 _ := hr.mono (by decide)
  have hr_is_name : Room 1 _ := hr.mono (by decide)
  have hr_is_ref : Room 2 _ := hr.mono (by decide)
  have hr_is_text : Room 2 _ := hr.mono (by decide)
  have hr_is_title : Room 2 _ := hr.mono (by decide)
  refine ⟨t_is_body ⟨K, P, w⟩, PSs.nox ?_, pure_is_body vs H Q E h⟩
  exact (pss_cons (ps_if (PW.pt (pw_or (pt_not (pt_val (pe_callB call_isi (by rfl) f_isinstance boot_isinstance (pa_cons (pv 0) (pa_cons (pe_bltn rfl f_tuple boot_tuple rfl) pa_nil))))) (pw_or (pt_cmpR op_eq (pe_callB call_len (by rfl) f_len boot_len (pa_cons (pv 0) pa_nil)) pe_int (nomark _)) (pw_or1 (pt_not (pt_val (pe_callB call_isi (by rfl) f_isinstance boot_isinstance (pa_cons (pe_ix ix_tup (pv 0) pe_int (fun _ _ => rfl)) (pa_cons (pe_bltn rfl f_str boot_str rfl) pa_nil))))))))) (pss_one (ps_ret pe_bl)) pss_nil)
      (pss_cons (ps_set (i := 1) sc_is_body.nd rfl (by first | exact Or.inl rfl | exact Or.inr rfl) (pe_ix ix_tup (pv 0) pe_int (fun _ _ => rfl)))
      (pss_cons (ps_if (pt_cmpR (op_neD hr.units) (pe_kget (kvs := [("found", 2), ("say", 1), ("reply", 2), ("edit", 2), ("recall", 1), ("mark", 2), ("title", 1), ("add", 1), ("cut", 1), ("hand", 1), ("seen", 0)]) kd_PARTS tb_PARTS gd_PARTS rfl (pv 1) ⟨rfl, rfl, rfl, rfl⟩) (pe_op op_sub (pe_callB call_len (by rfl) f_len boot_len (pa_cons (pv 0) pa_nil)) pe_int) (nomark _)) (pss_one (ps_ret pe_bl)) pss_nil)
      (pss_cons (ps_if (pt_cmpR op_eq (pv 1) pe_str (nomark _)) (pss_one (ps_ret (pe_and (pe_call G_is_title hr_is_title rfl m_is_title k_is_title b_is_title .nil pass0 (pa_cons (pe_ix ix_tup (pv 0) pe_int (fun _ _ => rfl)) pa_nil)) (pe_one (pe_call G_is_members hr_is_members rfl m_is_members k_is_members b_is_members .nil pass0 (pa_cons (pe_ix ix_tup (pv 0) pe_int (fun _ _ => rfl)) pa_nil)))))) pss_nil)
      (pss_cons (ps_if (PW.pt (pw_and (pt_cmpR op_in_seq (pv 1) (pe_tup (pa_cons pe_str (pa_cons pe_str (pa_cons pe_str (pa_cons pe_str pa_nil))))) (by rfl)) (pw_and1 (pt_not (pt_val (pe_call G_is_ref hr_is_ref rfl m_is_ref k_is_ref b_is_ref .nil pass0 (pa_cons (pe_ix ix_tup (pv 0) pe_int (fun _ _ => rfl)) pa_nil))))))) (pss_one (ps_ret pe_bl)) pss_nil)
      (pss_cons (ps_if (pt_cmpR op_in_seq (pv 1) (pe_tup (pa_cons pe_str (pa_cons pe_str (pa_cons pe_str pa_nil)))) (by rfl)) (pss_one (ps_ret (pe_call G_is_text hr_is_text rfl m_is_text k_is_text b_is_text .nil pass0 (pa_cons (pe_ix ix_tup (pv 0) (pe_un un_neg pe_int) (fun _ _ => rfl)) pa_nil)))) pss_nil)
      (pss_cons (ps_if (pt_cmpR op_eq (pv 1) pe_str (nomark _)) (pss_one (ps_ret (pe_call G_is_title hr_is_title rfl m_is_title k_is_title b_is_title .nil pass0 (pa_cons (pe_ix ix_tup (pv 0) pe_int (fun _ _ => rfl)) pa_nil)))) pss_nil)
      (pss_cons (ps_if (pt_cmpR op_in_seq (pv 1) (pe_tup (pa_cons pe_str (pa_cons pe_str (pa_cons pe_str (pa_cons pe_str pa_nil))))) (by rfl)) (pss_one (ps_ret (pe_call G_is_name hr_is_name rfl m_is_name k_is_name b_is_name .nil pass0 (pa_cons (pe_ix ix_tup (pv 0) (pe_un un_neg pe_int) (fun _ _ => rfl)) pa_nil)))) pss_nil)
      (pss_one (ps_ret pe_bl))))))))))
theorem m_is_seen (W : Wd w K mg) : mg "is_seen" = some (.ref (He.fAd K ("is_seen", none))) := let ⟨_, X, G⟩ := W.hp; He.glo_ok X G (W.c.fact 70 (f := fun K => (He.Fa.glo "is_seen").ok K) rfl)
theorem F_is_seen (W : Wd w K mg) : FnP K "is_seen" "is_seen" s_is_seen (He.fAd K ("is_seen", none)) (fdOf K (He.fAd K ("is_seen", none))) := let ⟨_, F⟩ := W.c.def_ 22 (d := d_is_seen) rfl; fd_at F
theorem b_is_seen (W : Wd w K mg) : Binds K (fdOf K (He.fAd K ("is_seen", none))) ["thing"] [] := (F_is_seen W).bindsN fun _ _ _ _ _ _ us hl => match us, hl with | [_], _ => rfl
theorem sc_is_seen : FnScope N_is_seen ["thing"] (defScope s_is_seen) := by walk_at "sc"
theorem ok_is_seen (W : Wd w K mg) : FnOk P w K mg base CX0 3 (He.fAd K ("is_seen", none)) (fdOf K (He.fAd K ("is_seen", none))) ["thing"] (sp_is_seen ⟨K, P, w⟩) := by
  have G_is_ref := ok_is_ref (P := P) (w := w) (base := base) W
  have m_is_ref := m_is_ref W
  have b_is_ref := b_is_ref W
  have k_is_ref := (F_is_ref W).kp
  have f_enumerate := f_enumerate W
  have f_isinstance := f_isinstance W
  have f_tuple := f_tuple W
  refine (F_is_seen W).ok sc_is_seen (fun vs H Q E h => by repeat (first | (obtain ⟨e, _⟩ := h; subst e; exact rfl) | obtain ⟨_, h⟩ := h)) (fun cdv A outer s H vs Q E hr h => ?_)
  have hr_is_ref : Room 2 _ := hr.mono (by decide)
  refine ⟨t_is_seen ⟨K, P, w⟩, PSs.nox ?_, pure_is_seen vs H Q E h⟩
  exact (pss_cons (ps_if (pt_not (pt_val (pe_callB call_isi (by rfl) f_isinstance boot_isinstance (pa_cons (pv 0) (pa_cons (pe_bltn rfl f_tuple boot_tuple rfl) pa_nil))))) (pss_one (ps_ret pe_bl)) pss_nil)
      (pss_cons (ps_for PassesOwn.never rfl (pi_enumT rfl f_enumerate (pa_cons (pv 0) pa_nil)) (pg_tup rfl (pgs_cons (pg_name (i := 1) sc_is_seen.nd rfl (by first | exact Or.inl rfl | exact Or.inr rfl)) (pgs_cons (pg_name (i := 2) sc_is_seen.nd rfl (by first | exact Or.inl rfl | exact Or.inr rfl)) pgs_nil))) (pss_cons (ps_if (pt_not (pt_val (pe_call G_is_ref hr_is_ref rfl m_is_ref k_is_ref b_is_ref .nil pass0 (pa_cons (pv 2) pa_nil)))) (pss_one (ps_ret pe_bl)) pss_nil)
      (pss_one (ps_if (PW.pt (pw_and (pt_cmpR op_gt (pv 1) pe_int (nomark _)) (pw_and1 (pt_cmpR op_le_str (pe_ix ix_tup (pv 2) pe_int (fun _ _ => rfl)) (pe_ix ix_tup (pe_ix ix_tup (pv 0) (pe_op op_sub (pv 1) pe_int) (fun _ _ => rfl)) pe_int (fun _ _ => rfl)) (nomark _))))) (pss_one (ps_ret pe_bl)) pss_nil))))
      (pss_one (ps_ret pe_bl))))
theorem m_are_counts (W : Wd w K mg) : mg "are_counts" = some (.ref (He.fAd K ("are_counts", none))) := let ⟨_, X, G⟩ := W.hp; He.glo_ok X G (W.c.fact 71 (f := fun K => (He.Fa.glo "are_counts").ok K) rfl)
theorem F_are_counts (W : Wd w K mg) : FnP K "are_counts" "are_counts" s_are_counts (He.fAd K ("are_counts", none)) (fdOf K (He.fAd K ("are_counts", none))) := let ⟨_, F⟩ := W.c.def_ 23 (d := d_are_counts) rfl; fd_at F
theorem b_are_counts (W : Wd w K mg) : Binds K (fdOf K (He.fAd K ("are_counts", none))) ["thing"] [] := (F_are_counts W).bindsN fun _ _ _ _ _ _ us hl => match us, hl with | [_], _ => rfl
theorem sc_are_counts : FnScope N_are_counts ["thing"] (defScope s_are_counts) := by walk_at "sc"
theorem ok_are_counts (W : Wd w K mg) : FnOk P w K mg base CX0 3 (He.fAd K ("are_counts", none)) (fdOf K (He.fAd K ("are_counts", none))) ["thing"] (sp_are_counts ⟨K, P, w⟩) := by
  have G_is_pair := ok_is_pair (P := P) (w := w) (base := base) W
  have m_is_pair := m_is_pair W
  have b_is_pair := b_is_pair W
  have k_is_pair := (F_is_pair W).kp
  have f_enumerate := f_enumerate W
  have f_isinstance := f_isinstance W
  have f_tuple := f_tuple W
  refine (F_are_counts W).ok sc_are_counts (fun vs H Q E h => by repeat (first | (obtain ⟨e, _⟩ := h; subst e; exact rfl) | obtain ⟨_, h⟩ := h)) (fun cdv A outer s H vs Q E hr h => ?_)
  have hr_is_pair : Room 2 _ := hr.mono (by decide)
  refine ⟨t_are_counts ⟨K, P, w⟩, PSs.nox ?_, pure_are_counts vs H Q E h⟩
  exact (pss_cons (ps_if (pt_not (pt_val (pe_callB call_isi (by rfl) f_isinstance boot_isinstance (pa_cons (pv 0) (pa_cons (pe_bltn rfl f_tuple boot_tuple rfl) pa_nil))))) (pss_one (ps_ret pe_bl)) pss_nil)
      (pss_cons (ps_for PassesOwn.never rfl (pi_enumT rfl f_enumerate (pa_cons (pv 0) pa_nil)) (pg_tup rfl (pgs_cons (pg_name (i := 1) sc_are_counts.nd rfl (by first | exact Or.inl rfl | exact Or.inr rfl)) (pgs_cons (pg_name (i := 2) sc_are_counts.nd rfl (by first | exact Or.inl rfl | exact Or.inr rfl)) pgs_nil))) (pss_cons (ps_if (pt_not (pt_val (pe_call G_is_pair hr_is_pair rfl m_is_pair k_is_pair b_is_pair .nil pass0 (pa_cons (pv 2) pa_nil)))) (pss_one (ps_ret pe_bl)) pss_nil)
      (pss_one (ps_if (PW.pt (pw_and (pt_cmpR op_gt (pv 1) pe_int (nomark _)) (pw_and1 (pt_cmpR op_ge_str (pe_ix ix_tup (pe_ix ix_tup (pv 0) (pe_op op_sub (pv 1) pe_int) (fun _ _ => rfl)) pe_int (fun _ _ => rfl)) (pe_ix ix_tup (pv 2) pe_int (fun _ _ => rfl)) (nomark _))))) (pss_one (ps_ret pe_bl)) pss_nil))))
      (pss_one (ps_ret pe_bl))))
theorem m__law_parcel (W : Wd w K mg) : mg "_law_parcel" = some (.ref (He.fAd K ("_law_parcel", none))) := let ⟨_, X, G⟩ := W.hp; He.glo_ok X G (W.c.fact 72 (f := fun K => (He.Fa.glo "_law_parcel").ok K) rfl)
theorem F__law_parcel (W : Wd w K mg) : FnP K "_law_parcel" "_law_parcel" s__law_parcel (He.fAd K ("_law_parcel", none)) (fdOf K (He.fAd K ("_law_parcel", none))) := let ⟨_, F⟩ := W.c.def_ 24 (d := d__law_parcel) rfl; fd_at F
theorem b__law_parcel (W : Wd w K mg) : Binds K (fdOf K (He.fAd K ("_law_parcel", none))) ["_law_stream_here"] [] := (F__law_parcel W).bindsN fun _ _ _ _ _ _ us hl => match us, hl with | [_], _ => rfl
theorem sc__law_parcel : FnScope N__law_parcel ["_law_stream_here"] (defScope s__law_parcel) := by walk_at "sc"
theorem ok__law_parcel (W : Wd w K mg) : FnOk P w K mg base CX0 3 (He.fAd K ("_law_parcel", none)) (fdOf K (He.fAd K ("_law_parcel", none))) ["_law_stream_here"] (sp__law_parcel ⟨K, P, w⟩) := by
  have G__law_name := ok__law_name (P := P) (w := w) (base := base) W
  have m__law_name := m__law_name W
  have b__law_name := b__law_name W
  have k__law_name := (F__law_name W).kp
  have G__law_next := ok__law_next (P := P) (w := w) (base := base) W
  have m__law_next := m__law_next W
  have b__law_next := b__law_next W
  have k__law_next := (F__law_next W).kp
  have f_range := f_range W
  have f_sorted := f_sorted W
  have f_tuple := f_tuple W
  refine (F__law_parcel W).ok sc__law_parcel (fun vs H Q E h => by repeat (first | (obtain ⟨e, _⟩ := h; subst e; exact rfl) | obtain ⟨_, h⟩ := h)) (fun cdv A outer s H vs Q E hr h => ?_)
  have hr__law_name : Room 2 _ := hr.mono (by decide)
  have hr__law_next : Room 1 _ := hr.mono (by decide)
  refine ⟨t__law_parcel ⟨K, P, w⟩, PSs.nox ?_, pure__law_parcel vs H Q E h⟩
  exact (pss_cons (ps_set (i := 1) sc__law_parcel.nd rfl (by first | exact Or.inl rfl | exact Or.inr rfl) (pe_tup (pa_cons (pe_call G__law_name hr__law_name rfl m__law_name k__law_name b__law_name .nil pass0 (pa_cons (pv 0) pa_nil)) (pa_cons (pe_call G__law_name hr__law_name rfl m__law_name k__law_name b__law_name .nil pass0 (pa_cons (pv 0) pa_nil)) pa_nil))))
      (pss_cons (ps_if (pt_cmpR op_eq (pe_call G__law_next hr__law_next rfl m__law_next k__law_next b__law_next .nil pass0 (pa_cons (pv 0) (pa_cons pe_int pa_nil))) pe_int (nomark _)) (pss_cons (ps_set (i := 2) sc__law_parcel.nd rfl (by first | exact Or.inl rfl | exact Or.inr rfl) (pe_lst pa_nil))
      (pss_cons (ps_for PassesOwn.never rfl (pi_range1 rfl f_range (pa_cons (pe_call G__law_next hr__law_next rfl m__law_next k__law_next b__law_next .nil pass0 (pa_cons (pv 0) (pa_cons pe_int pa_nil))) pa_nil)) (pg_name (i := 3) sc__law_parcel.nd rfl (by first | exact Or.inl rfl | exact Or.inr rfl)) (pss_cons (ps_set (i := 4) sc__law_parcel.nd rfl (by first | exact Or.inl rfl | exact Or.inr rfl) (pe_call G__law_name hr__law_name rfl m__law_name k__law_name b__law_name .nil pass0 (pa_cons (pv 0) pa_nil)))
      (pss_one (ps_if (pt_cmpR op_notIn_seq (pv 4) (pv 2) (by rfl)) (pss_one (ps_expr (pe_bm PySem.F.plainAttrs_list PySem.F.slot_list_append PySem.F.type_list_append mt_append (pv 2) (pa_cons (pv 4) pa_nil)))) pss_nil))))
      (pss_one (ps_ret (pe_tup (pa_cons pe_str (pa_cons (pv 1) (pa_cons (pe_callTy call_tuple_of (by rfl) f_tuple boot_tuple (pa_cons (pe_lc (own := [("_law_name_here", 4)]) (g := (gName 4)) (tt := tYes) rfl sc__law_parcel.nd (pi_list (pe_callB (cr_sortedStr hr.units) (by rfl) f_sorted boot_sorted (pa_cons (pv 2) pa_nil))) (blkOk_by (own := [("_law_name_here", 4)]) (N := N__law_parcel) (sc := defScope s__law_parcel) (by decide +kernel)) (fun _ _ _ _ _ => (pg_name (i := 4) sc__law_parcel.nd rfl (by first | exact Or.inl rfl | exact Or.inr rfl))) (fun _ _ _ _ _ => pts_nil) (fun _ _ _ _ _ => (pe_tup (pa_cons (pv 4) (pa_cons (pe_op op_add pe_int (pe_call G__law_next hr__law_next rfl m__law_next k__law_next b__law_next .nil pass0 (pa_cons (pv 0) (pa_cons (pe_op op_pow pe_int pe_int) pa_nil)))) pa_nil))))) pa_nil)) pa_nil)))))))) pss_nil)
      (pss_cons (ps_set (i := 5) sc__law_parcel.nd rfl (by first | exact Or.inl rfl | exact Or.inr rfl) (pe_call G__law_name hr__law_name rfl m__law_name k__law_name b__law_name .nil pass0 (pa_cons (pv 0) pa_nil)))
      (pss_cons (ps_set (i := 6) sc__law_parcel.nd rfl (by first | exact Or.inl rfl | exact Or.inr rfl) (pe_tup (pa_cons (pv 5) (pa_cons pe_int (pa_cons pe_int (pa_cons (pe_tup (pa_cons (pe_tup (pa_cons (pv 5) (pa_cons pe_int pa_nil))) pa_nil)) (pa_cons (pe_tup (pa_cons pe_str (pa_cons (pe_op op_mulS pe_str (pe_call G__law_next hr__law_next rfl m__law_next k__law_next b__law_next .nil pass0 (pa_cons (pv 0) (pa_cons pe_int pa_nil)))) (pa_cons (pe_tup pa_nil) pa_nil)))) pa_nil)))))))
      (pss_one (ps_ret (pe_tup (pa_cons pe_str (pa_cons (pv 1) (pa_cons (pe_op op_repT1 (pe_tup (pa_cons (pv 6) pa_nil)) (pe_op op_add pe_int (pe_call G__law_next hr__law_next rfl m__law_next k__law_next b__law_next .nil pass0 (pa_cons (pv 0) (pa_cons pe_int pa_nil))))) pa_nil))))))))))
theorem m__law_same (W : Wd w K mg) : mg "_law_same" = some (.ref (He.fAd K ("_law_same", none))) := let ⟨_, X, G⟩ := W.hp; He.glo_ok X G (W.c.fact 73 (f := fun K => (He.Fa.glo "_law_same").ok K) rfl)
theorem F__law_same (W : Wd w K mg) : FnP K "_law_same" "_law_same" s__law_same (He.fAd K ("_law_same", none)) (fdOf K (He.fAd K ("_law_same", none))) := let ⟨_, F⟩ := W.c.def_ 25 (d := d__law_same) rfl; fd_at F
theorem b__law_same (W : Wd w K mg) : Binds K (fdOf K (He.fAd K ("_law_same", none))) ["_law_post", "_law_model"] [] := (F__law_same W).bindsN fun _ _ _ _ _ _ us hl => match us, hl with | [_, _], _ => rfl
theorem sc__law_same : FnScope N__law_same ["_law_post", "_law_model"] (defScope s__law_same) := by walk_at "sc"
theorem ok__law_same (W : Wd w K mg) : FnOk P w K mg base CX0 3 (He.fAd K ("_law_same", none)) (fdOf K (He.fAd K ("_law_same", none))) ["_law_post", "_law_model"] (sp__law_same ⟨K, P, w⟩) := by
  have G_Post_numbers := ok_Post_numbers (P := P) (w := w) (base := base) W
  have b_Post_numbers := b_Post_numbers W
  have k_Post_numbers := (F_Post_numbers W).kp
  have G_Post___len__ := ok_Post___len__ (P := P) (w := w) (base := base) W
  have b_Post___len__ := b_Post___len__ W
  have k_Post___len__ := (F_Post___len__ W).kp
  have G__law_is := ok__law_is (P := P) (w := w) (base := base) W
  have m__law_is := m__law_is W
  have b__law_is := b__law_is W
  have k__law_is := (F__law_is W).kp
  have G_Post___iter__ := ok_Post___iter__ (P := P) (w := w) (base := base) W
  have b_Post___iter__ := b_Post___iter__ W
  have k_Post___iter__ := (F_Post___iter__ W).kp
  have c_Post := c_Post W
  have mt_Post_numbers := mt_Post_numbers W
  have mt_Post___len__ := mt_Post___len__ W
  have mt_Post___iter__ := mt_Post___iter__ W
  have n_Post_sent := n_Post_sent W
  have f_bool := f_bool W
  have f_isinstance := f_isinstance W
  have f_len := f_len W
  have f_list := f_list W
  have f_sorted := f_sorted W
  refine (F__law_same W).ok sc__law_same (fun vs H Q E h => by repeat (first | (obtain ⟨e, _⟩ := h; subst e; exact rfl) | obtain ⟨_, h⟩ := h)) (fun cdv A outer s H vs Q E hr h => ?_)
  have hu := hu_of hr
  have hr_Post___iter__ : Room 1 _ := hr.mono (by decide)
  have hr_Post_numbers : Room 1 _ := hr.mono (by decide)
  have hr__law_is : Room 1 _ := hr.mono (by decide)
  refine ⟨t__law_same ⟨K, P, w⟩, PSs.nox ?_, pure__law_same vs H Q E h⟩
  exact (pss_cons (ps_set (i := 2) sc__law_same.nd rfl (by first | exact Or.inl rfl | exact Or.inr rfl) (pe_callB (call_sortedDI rfl) (by rfl) f_sorted boot_sorted (pa_cons (pe_dget hu (pv 1) pe_str (fun _ _ => rfl)) pa_nil)))
      (pss_cons (ps_set (i := 3) sc__law_same.nd rfl (by first | exact Or.inl rfl | exact Or.inr rfl) (pe_meth0 (pv 0) c_Post mt_Post_numbers G_Post_numbers hr_Post_numbers b_Post_numbers .nil pass0))
      (pss_cons (ps_if (PW.pt (pw_or (pt_not (pt_val (pe_callB call_isi (by rfl) f_isinstance boot_isinstance (pa_cons (pv 3) (pa_cons (pe_bltn rfl f_list boot_list rfl) pa_nil))))) (pw_or (pt_cmpR (op_neD hr.units) (pv 3) (pv 2) (nomark _)) (pw_or1 (pt_not (pt_val (pe_call G__law_is hr__law_is rfl m__law_is k__law_is b__law_is .nil pass0 (pa_cons (pe_callB (call_lenO mt_Post___len__ G_Post___len__ (hr.mono (by decide)) b_Post___len__) (by rfl) f_len boot_len (pa_cons (pv 0) pa_nil)) (pa_cons (pe_callB call_len (by rfl) f_len boot_len (pa_cons (pv 2) pa_nil)) pa_nil))))))))) (pss_one (ps_ret pe_bl)) pss_nil)
      (pss_cons (ps_expr (pe_bm PySem.F.plainAttrs_list PySem.F.slot_list_append PySem.F.type_list_append mt_append (pv 3) (pa_cons pe_int pa_nil)))
      (pss_cons (ps_lock (ps_setLc (i := 4) (own := [("_law_number", 5)]) (g := (gName 5)) (tt := tYes) rfl sc__law_same.nd rfl rfl (sw_true rfl rfl rfl (by decide +kernel)) (pi_own mt_Post___iter__ G_Post___iter__ hr_Post___iter__ b_Post___iter__ (pv 0)) (blkOk_by (own := [("_law_number", 5)]) (N := N__law_same) (sc := defScope s__law_same) (by decide +kernel)) (fun _ _ _ _ _ => (pg_name (i := 5) sc__law_same.nd rfl (by first | exact Or.inl rfl | exact Or.inr rfl))) (fun _ _ _ _ _ => pts_nil) (fun _ _ _ _ _ => (pv 5))))
      (pss_cons (ps_if (PW.pt (pw_or (pt_cmpR (op_neD hr.units) (pv 4) (pv 2) (nomark _)) (pw_or (pt_cmpR (op_neD hr.units) (pe_meth0 (pv 0) c_Post mt_Post_numbers G_Post_numbers hr_Post_numbers b_Post_numbers .nil pass0) (pv 2) (nomark _)) (pw_or1 (pt_not (pt_val (pe_call G__law_is hr__law_is rfl m__law_is k__law_is b__law_is .nil pass0 (pa_cons (pe_fldC c_Post n_Post_sent (pv 0)) (pa_cons (pe_dget hu (pv 1) pe_str (fun _ _ => rfl)) pa_nil))))))))) (pss_one (ps_ret pe_bl)) pss_nil)
      (pss_one (ps_ret (pe_cmpR (op_eqD hr.units) (pe_lc (own := [("_law_number", 5)]) (g := (gName 5)) (tt := (tB (tCB (rIsi K) (tCons (tVar 5) (tCons (tC (.ty "bool")) tNil))))) rfl sc__law_same.nd (pi_list (pe_op op_cat (pv 4) (pv 3))) (blkOk_by (own := [("_law_number", 5)]) (N := N__law_same) (sc := defScope s__law_same) (by decide +kernel)) (fun _ _ _ _ _ => (pg_name (i := 5) sc__law_same.nd rfl (by first | exact Or.inl rfl | exact Or.inr rfl))) (fun _ _ _ _ _ => (pts_one (pt_val (pe_callB call_isi (by rfl) f_isinstance boot_isinstance (pa_cons (pv 5) (pa_cons (pe_bltn rfl f_bool boot_bool rfl) pa_nil)))))) (fun _ _ _ _ _ => (pv 5))) (pe_lst pa_nil) (nomark _))))))))))
theorem m__law_tries_number (W : Wd w K mg) : mg "_law_tries_number" = some (.ref (He.fAd K ("_law_tries_number", none))) := let ⟨_, X, G⟩ := W.hp; He.glo_ok X G (W.c.fact 74 (f := fun K => (He.Fa.glo "_law_tries_number").ok K) rfl)
theorem F__law_tries_number (W : Wd w K mg) : FnP K "_law_tries_number" "_law_tries_number" s__law_tries_number (He.fAd K ("_law_tries_number", none)) (fdOf K (He.fAd K ("_law_tries_number", none))) := let ⟨_, F⟩ := W.c.def_ 26 (d := d__law_tries_number) rfl; fd_at F
theorem b__law_tries_number (W : Wd w K mg) : Binds K (fdOf K (He.fAd K ("_law_tries_number", none))) ["_law_post", "_law_model", "_law_stream_here", "_law_loses"] [] := (F__law_tries_number W).bindsN fun _ _ _ _ _ _ us hl => match us, hl with | [_, _, _, _], _ => rfl
theorem sc__law_tries_number : FnScope N__law_tries_number ["_law_post", "_law_model", "_law_stream_here", "_law_loses"] (defScope s__law_tries_number) := by walk_at "sc"
theorem ok__law_tries_number (W : Wd w K mg) : FnOk P w K mg base CX0 3 (He.fAd K ("_law_tries_number", none)) (fdOf K (He.fAd K ("_law_tries_number", none))) ["_law_post", "_law_model", "_law_stream_here", "_law_loses"] (sp__law_tries_number ⟨K, P, w⟩) := by
  have G__law_next := ok__law_next (P := P) (w := w) (base := base) W
  have m__law_next := m__law_next W
  have b__law_next := b__law_next W
  have k__law_next := (F__law_next W).kp
  have G__law_asked := ok__law_asked (P := P) (w := w) (base := base) W
  have m__law_asked := m__law_asked W
  have b__law_asked := b__law_asked W
  have k__law_asked := (F__law_asked W).kp
  have f_isinstance := f_isinstance W
  have f_tuple := f_tuple W
  refine (F__law_tries_number W).ok sc__law_tries_number (fun vs H Q E h => by repeat (first | (obtain ⟨e, _⟩ := h; subst e; exact rfl) | obtain ⟨_, h⟩ := h)) (fun cdv A outer s H vs Q E hr h => ?_)
  have hu := hu_of hr
  have hr__law_asked : Room 2 _ := hr.mono (by decide)
  have hr__law_next : Room 1 _ := hr.mono (by decide)
  refine ⟨t__law_tries_number ⟨K, P, w⟩, PSs.nox ?_, pure__law_tries_number vs H Q E h⟩
  exact (pss_cons (ps_set (i := 4) sc__law_tries_number.nd rfl (by first | exact Or.inl rfl | exact Or.inr rfl) (pe_op op_sub (pe_call G__law_next hr__law_next rfl m__law_next k__law_next b__law_next .nil pass0 (pa_cons (pv 2) (pa_cons (pe_op op_add (pe_dget hu (pv 1) pe_str (fun _ _ => rfl)) pe_int) pa_nil))) pe_int))
      (pss_mid (ps_if (pt_cmpR op_eq (pe_call G__law_next hr__law_next rfl m__law_next k__law_next b__law_next .nil pass0 (pa_cons (pv 2) (pa_cons pe_int pa_nil))) pe_int (nomark _)) (pss_one (ps_set (i := 4) sc__law_tries_number.nd rfl (by first | exact Or.inl rfl | exact Or.inr rfl) (pe_op op_sub (pe_op op_pow pe_int pe_int) (pe_call G__law_next hr__law_next rfl m__law_next k__law_next b__law_next .nil pass0 (pa_cons (pv 2) (pa_cons (pe_op op_mul pe_int (pe_op op_pow pe_int pe_int)) pa_nil)))))) pss_nil)
      (pss_cons (ps_if (pt_cmp (pc_dnotin hu (pv 4) (pe_dget hu (pv 1) pe_str (fun _ _ => rfl)))) (pss_cons (ps_set (i := 5) sc__law_tries_number.nd rfl (by first | exact Or.inl rfl | exact Or.inr rfl) (pe_call G__law_asked hr__law_asked rfl m__law_asked k__law_asked b__law_asked .nil pass0 (pa_cons (pv 0) (pa_cons (pv 4) (pa_cons (pv 3) pa_nil)))))
      (pss_one (ps_ret (pe_and (pe_callB call_isi (by rfl) f_isinstance boot_isinstance (pa_cons (pv 5) (pa_cons (pe_bltn rfl f_tuple boot_tuple rfl) pa_nil))) (pe_one (pe_cmpR (op_eqD hr.units) (pv 5) (pe_tup (pa_cons pe_str (pa_cons pe_str pa_nil))) (nomark _))))))) pss_nil)
      (pss_cons (ps_set (i := 5) sc__law_tries_number.nd rfl (by first | exact Or.inl rfl | exact Or.inr rfl) (pe_call G__law_asked hr__law_asked rfl m__law_asked k__law_asked b__law_asked .nil pass0 (pa_cons (pv 0) (pa_cons (pv 4) (pa_cons (pv 3) pa_nil)))))
      (pss_cons (ps_if (pt_val (pv 3)) (pss_cons (ps_expr (pe_dpop1 (pe_dget hu (pv 1) pe_str (fun _ _ => rfl)) (pv 4) ⟨rfl, rfl, rfl, rfl⟩))
      (pss_one (ps_ret (pe_cmpR op_isN (pv 5) pe_non (nomark _))))) pss_nil)
      (pss_one (ps_ret (pe_and (pe_callB call_isi (by rfl) f_isinstance boot_isinstance (pa_cons (pv 5) (pa_cons (pe_bltn rfl f_tuple boot_tuple rfl) pa_nil))) (pe_one (pe_cmpR (op_eqD hr.units) (pv 5) (pe_dget hu (pe_dget hu (pv 1) pe_str (fun _ _ => rfl)) (pv 4) (fun _ _ => rfl)) (nomark _)))))))))))
theorem m_is_letter (W : Wd w K mg) : mg "is_letter" = some (.ref (He.fAd K ("is_letter", none))) := let ⟨_, X, G⟩ := W.hp; He.glo_ok X G (W.c.fact 75 (f := fun K => (He.Fa.glo "is_letter").ok K) rfl)
theorem F_is_letter (W : Wd w K mg) : FnP K "is_letter" "is_letter" s_is_letter (He.fAd K ("is_letter", none)) (fdOf K (He.fAd K ("is_letter", none))) := let ⟨_, F⟩ := W.c.def_ 27 (d := d_is_letter) rfl; fd_at F
theorem b_is_letter (W : Wd w K mg) : Binds K (fdOf K (He.fAd K ("is_letter", none))) ["thing"] [] := (F_is_letter W).bindsN fun _ _ _ _ _ _ us hl => match us, hl with | [_], _ => rfl
theorem sc_is_letter : FnScope N_is_letter ["thing"] (defScope s_is_letter) := by walk_at "sc"
theorem ok_is_letter (W : Wd w K mg) : FnOk P w K mg base CX0 4 (He.fAd K ("is_letter", none)) (fdOf K (He.fAd K ("is_letter", none))) ["thing"] (sp_is_letter ⟨K, P, w⟩) := by
  have G_is_name := ok_is_name (P := P) (w := w) (base := base) W
  have m_is_name := m_is_name W
  have b_is_name := b_is_name W
  have k_is_name := (F_is_name W).kp
  have G_is_number := ok_is_number (P := P) (w := w) (base := base) W
  have m_is_number := m_is_number W
  have b_is_number := b_is_number W
  have k_is_number := (F_is_number W).kp
  have G_is_seen := ok_is_seen (P := P) (w := w) (base := base) W
  have m_is_seen := m_is_seen W
  have b_is_seen := b_is_seen W
  have k_is_seen := (F_is_seen W).kp
  have G_is_body := ok_is_body (P := P) (w := w) (base := base) W
  have m_is_body := m_is_body W
  have b_is_body := b_is_body W
  have k_is_body := (F_is_body W).kp
  have f_isinstance := f_isinstance W
  have f_len := f_len W
  have f_tuple := f_tuple W
  refine (F_is_letter W).ok sc_is_letter (fun vs H Q E h => by repeat (first | (obtain ⟨e, _⟩ := h; subst e; exact rfl) | obtain ⟨_, h⟩ := h)) (fun cdv A outer s H vs Q E hr h => ?_)
  have hr_is_body : Room 3 _ := hr.mono (by decide)
  have hr_is_name : Room 1 _ := hr.mono (by decide)
  have hr_is_number : Room 1 _ := hr.mono (by decide)
  have hr_is_seen : Room 3 _ := hr.mono (by decide)
  refine ⟨t_is_letter ⟨K, P, w⟩, PSs.nox ?_, pure_is_letter vs H Q E h⟩
  exact (pss_cons (ps_if (PW.pt (pw_or (pt_not (pt_val (pe_callB call_isi (by rfl) f_isinstance boot_isinstance (pa_cons (pv 0) (pa_cons (pe_bltn rfl f_tuple boot_tuple rfl) pa_nil))))) (pw_or1 (pt_cmpR op_ne (pe_callB call_len (by rfl) f_len boot_len (pa_cons (pv 0) pa_nil)) pe_int (nomark _))))) (pss_one (ps_ret pe_bl)) pss_nil)
      (pss_cons (ps_asg (pv 0) (pg_tup rfl (pgs_cons (pg_name (i := 1) sc_is_letter.nd rfl (by first | exact Or.inl rfl | exact Or.inr rfl)) (pgs_cons (pg_name (i := 2) sc_is_letter.nd rfl (by first | exact Or.inl rfl | exact Or.inr rfl)) (pgs_cons (pg_name (i := 3) sc_is_letter.nd rfl (by first | exact Or.inl rfl | exact Or.inr rfl)) (pgs_cons (pg_name (i := 4) sc_is_letter.nd rfl (by first | exact Or.inl rfl | exact Or.inr rfl)) (pgs_cons (pg_name (i := 5) sc_is_letter.nd rfl (by first | exact Or.inl rfl | exact Or.inr rfl)) pgs_nil)))))))
      (pss_cons (ps_if (PW.pt (pw_or (pt_not (pt_val (pe_call G_is_name hr_is_name rfl m_is_name k_is_name b_is_name .nil pass0 (pa_cons (pv 1) pa_nil)))) (pw_or (pt_not (pt_val (pe_call G_is_number hr_is_number rfl m_is_number k_is_number b_is_number .nil pass0 (pa_cons (pv 2) pa_nil)))) (pw_or1 (pt_not (pt_val (pe_call G_is_number hr_is_number rfl m_is_number k_is_number b_is_number .nil pass0 (pa_cons (pv 3) pa_nil)))))))) (pss_one (ps_ret pe_bl)) pss_nil)
      (pss_cons (ps_if (PW.pt (pw_or (pt_not (pt_val (pe_call G_is_seen hr_is_seen rfl m_is_seen k_is_seen b_is_seen .nil pass0 (pa_cons (pv 4) pa_nil)))) (pw_or1 (pt_not (pt_val (pe_call G_is_body hr_is_body rfl m_is_body k_is_body b_is_body .nil pass0 (pa_cons (pv 5) pa_nil))))))) (pss_one (ps_ret pe_bl)) pss_nil)
      (pss_cons (ps_if (PW.pt (pw_or (pt_cmpR (op_notInTD (units65 hr)) (pe_tup (pa_cons (pv 1) (pa_cons (pv 2) pa_nil))) (pv 4) (by rfl)) (pw_or1 (pt_cmpR op_lt (pv 3) (pv 2) (nomark _))))) (pss_one (ps_ret pe_bl)) pss_nil)
      (pss_cons (ps_if (pt_cmpR op_eq (pe_ix ix_tup (pv 5) pe_int (fun _ _ => rfl)) pe_str (nomark _)) (pss_one (ps_ret (pe_and (pe_cmpR op_eq (pv 3) pe_int (nomark _)) (pe_and (pe_cmpR (op_eqD hr.units) (pv 4) (pe_tup (pa_cons (pe_tup (pa_cons (pv 1) (pa_cons pe_int pa_nil))) pa_nil)) (nomark _)) (pe_one (pe_cmpR op_notIn_seq (pv 1) (pe_ix ix_tup (pv 5) pe_int (fun _ _ => rfl)) (by rfl))))))) pss_nil)
      (pss_one (ps_ret (pe_cmpR op_gt (pv 3) pe_int (nomark _))))))))))
theorem m_are_values (W : Wd w K mg) : mg "are_values" = some (.ref (He.fAd K ("are_values", none))) := let ⟨_, X, G⟩ := W.hp; He.glo_ok X G (W.c.fact 76 (f := fun K => (He.Fa.glo "are_values").ok K) rfl)
theorem F_are_values (W : Wd w K mg) : FnP K "are_values" "are_values" s_are_values (He.fAd K ("are_values", none)) (fdOf K (He.fAd K ("are_values", none))) := let ⟨_, F⟩ := W.c.def_ 28 (d := d_are_values) rfl; fd_at F
theorem b_are_values (W : Wd w K mg) : Binds K (fdOf K (He.fAd K ("are_values", none))) ["thing"] [] := (F_are_values W).bindsN fun _ _ _ _ _ _ us hl => match us, hl with | [_], _ => rfl
theorem sc_are_values : FnScope N_are_values ["thing"] (defScope s_are_values) := by walk_at "sc"
theorem ok_are_values (W : Wd w K mg) : FnOk P w K mg base CX0 5 (He.fAd K ("are_values", none)) (fdOf K (He.fAd K ("are_values", none))) ["thing"] (sp_are_values ⟨K, P, w⟩) := by
  have G_is_letter := ok_is_letter (P := P) (w := w) (base := base) W
  have m_is_letter := m_is_letter W
  have b_is_letter := b_is_letter W
  have k_is_letter := (F_is_letter W).kp
  have f_all := f_all W
  have f_isinstance := f_isinstance W
  have f_len := f_len W
  have f_tuple := f_tuple W
  refine (F_are_values W).ok sc_are_values (fun vs H Q E h => by repeat (first | (obtain ⟨e, _⟩ := h; subst e; exact rfl) | obtain ⟨_, h⟩ := h)) (fun cdv A outer s H vs Q E hr h => ?_)
  have hr_is_letter : Room 4 _ := hr.mono (by decide)
  refine ⟨t_are_values ⟨K, P, w⟩, PSs.nox ?_, pure_are_values vs H Q E h⟩
  exact (pss_one (ps_ret (pe_and (pe_callB call_isi (by rfl) f_isinstance boot_isinstance (pa_cons (pv 0) (pa_cons (pe_bltn rfl f_tuple boot_tuple rfl) pa_nil))) (pe_and (pe_cmpR op_gt (pe_callB call_len (by rfl) f_len boot_len (pa_cons (pv 0) pa_nil)) pe_int (nomark _)) (pe_one (pe_callB (cr_all rfl) (by rfl) f_all boot_all (pa_cons (pe_lc (own := [("value", 1)]) (g := (gName 1)) (tt := tYes) rfl sc_are_values.nd (pi_tup (pv 0)) (blkOk_by (own := [("value", 1)]) (N := N_are_values) (sc := defScope s_are_values) (by decide +kernel)) (fun _ _ _ _ _ => (pg_name (i := 1) sc_are_values.nd rfl (by first | exact Or.inl rfl | exact Or.inr rfl))) (fun _ _ _ _ _ => pts_nil) (fun _ _ _ _ _ => (pe_call G_is_letter hr_is_letter rfl m_is_letter k_is_letter b_is_letter .nil pass0 (pa_cons (pv 1) pa_nil)))) pa_nil)))))))
theorem m_is_parcel (W : Wd w K mg) : mg "is_parcel" = some (.ref (He.fAd K ("is_parcel", none))) := let ⟨_, X, G⟩ := W.hp; He.glo_ok X G (W.c.fact 77 (f := fun K => (He.Fa.glo "is_parcel").ok K) rfl)
theorem F_is_parcel (W : Wd w K mg) : FnP K "is_parcel" "is_parcel" s_is_parcel (He.fAd K ("is_parcel", none)) (fdOf K (He.fAd K ("is_parcel", none))) := let ⟨_, F⟩ := W.c.def_ 29 (d := d_is_parcel) rfl; fd_at F
theorem b_is_parcel (W : Wd w K mg) : Binds K (fdOf K (He.fAd K ("is_parcel", none))) ["thing"] [] := (F_is_parcel W).bindsN fun _ _ _ _ _ _ us hl => match us, hl with | [_], _ => rfl
theorem sc_is_parcel : FnScope N_is_parcel ["thing"] (defScope s_is_parcel) := by walk_at "sc"
theorem ok_is_parcel (W : Wd w K mg) : FnOk P w K mg base CX0 6 (He.fAd K ("is_parcel", none)) (fdOf K (He.fAd K ("is_parcel", none))) ["thing"] (sp_is_parcel ⟨K, P, w⟩) := by
  have G_is_room := ok_is_room (P := P) (w := w) (base := base) W
  have m_is_room := m_is_room W
  have b_is_room := b_is_room W
  have k_is_room := (F_is_room W).kp
  have G_are_counts := ok_are_counts (P := P) (w := w) (base := base) W
  have m_are_counts := m_are_counts W
  have b_are_counts := b_are_counts W
  have k_are_counts := (F_are_counts W).kp
  have G_are_values := ok_are_values (P := P) (w := w) (base := base) W
  have m_are_values := m_are_values W
  have b_are_values := b_are_values W
  have k_are_values := (F_are_values W).kp
  have f_isinstance := f_isinstance W
  have f_len := f_len W
  have f_str := f_str W
  have f_tuple := f_tuple W
  refine (F_is_parcel W).ok sc_is_parcel (fun vs H Q E h => by repeat (first | (obtain ⟨e, _⟩ := h; subst e; exact rfl) | obtain ⟨_, h⟩ := h)) (fun cdv A outer s H vs Q E hr h => ?_)
  have hr_are_counts : Room 3 _ := hr.mono (by decide)
  have hr_are_values : Room 5 _ := hr.mono (by decide)
  have hr_is_room : Room 2 _ := hr.mono (by decide)
  refine ⟨t_is_parcel ⟨K, P, w⟩, PSs.nox ?_, pure_is_parcel vs H Q E h⟩
  exact (pss_cons (ps_if (PW.pt (pw_or (pt_not (pt_val (pe_callB call_isi (by rfl) f_isinstance boot_isinstance (pa_cons (pv 0) (pa_cons (pe_bltn rfl f_tuple boot_tuple rfl) pa_nil))))) (pw_or (pt_cmpR op_ne (pe_callB call_len (by rfl) f_len boot_len (pa_cons (pv 0) pa_nil)) pe_int (nomark _)) (pw_or1 (pt_not (pt_val (pe_callB call_isi (by rfl) f_isinstance boot_isinstance (pa_cons (pe_ix ix_tup (pv 0) pe_int (fun _ _ => rfl)) (pa_cons (pe_bltn rfl f_str boot_str rfl) pa_nil))))))))) (pss_one (ps_ret pe_bl)) pss_nil)
      (pss_cons (ps_asg (pv 0) (pg_tup rfl (pgs_cons (pg_name (i := 1) sc_is_parcel.nd rfl (by first | exact Or.inl rfl | exact Or.inr rfl)) (pgs_cons (pg_name (i := 2) sc_is_parcel.nd rfl (by first | exact Or.inl rfl | exact Or.inr rfl)) (pgs_cons (pg_name (i := 3) sc_is_parcel.nd rfl (by first | exact Or.inl rfl | exact Or.inr rfl)) pgs_nil)))))
      (pss_cons (ps_if (pt_not (pt_val (pe_call G_is_room hr_is_room rfl m_is_room k_is_room b_is_room .nil pass0 (pa_cons (pv 2) pa_nil)))) (pss_one (ps_ret pe_bl)) pss_nil)
      (pss_cons (ps_if (pt_cmpR op_eq (pv 1) pe_str (nomark _)) (pss_one (ps_ret (pe_call G_are_counts hr_are_counts rfl m_are_counts k_are_counts b_are_counts .nil pass0 (pa_cons (pv 3) pa_nil)))) pss_nil)
      (pss_one (ps_ret (pe_and (pe_cmpR op_eq (pv 1) pe_str (nomark _)) (pe_one (pe_call G_are_values hr_are_values rfl m_are_values k_are_values b_are_values .nil pass0 (pa_cons (pv 3) pa_nil))))))))))
theorem F_Post_put (W : Wd w K mg) : FnP K "put" "Post.put" s_Post_put (He.fAd K ("Post", some "put")) (fdOf K (He.fAd K ("Post", some "put"))) := let ⟨_, F⟩ := W.c.def_ 30 (d := d_Post_put) rfl; fd_at F
theorem b_Post_put (W : Wd w K mg) : Binds K (fdOf K (He.fAd K ("Post", some "put"))) ["self", "sender", "receiver", "parcel"] [] := (F_Post_put W).bindsN fun _ _ _ _ _ _ us hl => match us, hl with | [_, _, _, _], _ => rfl
theorem sc_Post_put : FnScope N_Post_put ["self", "sender", "receiver", "parcel"] (defScope s_Post_put) := by walk_at "sc"
theorem ok_Post_put (W : Wd w K mg) : FnOk P w K mg base (L2.CX P w) 7 (He.fAd K ("Post", some "put")) (fdOf K (He.fAd K ("Post", some "put"))) ["self", "sender", "receiver", "parcel"] (sp_Post_put ⟨K, P, w⟩) := by
  have G_is_name := ok_is_name (P := P) (w := w) (base := base) W
  have m_is_name := m_is_name W
  have b_is_name := b_is_name W
  have k_is_name := (F_is_name W).kp
  have G_is_parcel := ok_is_parcel (P := P) (w := w) (base := base) W
  have m_is_parcel := m_is_parcel W
  have b_is_parcel := b_is_parcel W
  have k_is_parcel := (F_is_parcel W).kp
  have exc_BadValue := exc_BadValue W
  have gc_BadValue := gc_BadValue W
  have c_Post := c_Post W
  have n_Post_sent := n_Post_sent W
  have n_Post__parcels := n_Post__parcels W
  refine (F_Post_put W).ok sc_Post_put (fun vs H Q E h => by repeat (first | (obtain ⟨e, _⟩ := h; subst e; exact rfl) | obtain ⟨_, h⟩ := h)) (fun cdv A outer s H vs Q E hr h => ?_)
  have hu := hu_of hr
  have hr_is_name : Room 1 _ := hr.mono (by decide)
  have hr_is_parcel : Room 6 _ := hr.mono (by decide)
  refine ⟨t_Post_put ⟨K, P, w⟩ (fun cls d _ H => E cls d H), ?_, pure_Post_put vs H Q E h⟩
  exact (pss_cons (ps_if (PW.pt (pw_or (pt_not (pt_val (pe_call G_is_name hr_is_name rfl m_is_name k_is_name b_is_name .nil pass0 (pa_cons (pv 1) pa_nil)))) (pw_or (pt_not (pt_val (pe_call G_is_name hr_is_name rfl m_is_name k_is_name b_is_name .nil pass0 (pa_cons (pv 2) pa_nil)))) (pw_or1 (pt_not (pt_val (pe_call G_is_parcel hr_is_parcel rfl m_is_parcel k_is_parcel b_is_parcel .nil pass0 (pa_cons (pv 3) pa_nil)))))))) (pss_one (ps_raiseC rfl (takes_of rfl rfl rfl rfl) exc_BadValue gc_BadValue rfl)) pss_nil)
      (pss_cons (ps_fldaugC c_Post n_Post_sent (pv 0) pe_int in_add)
      (pss_cons (ps_dput hu (pe_fldC c_Post n_Post__parcels (pv 0)) (pe_fldC c_Post n_Post_sent (pv 0)) (pe_tup (pa_cons (pv 1) (pa_cons (pv 2) (pa_cons (pv 3) pa_nil)))) rfl)
      (pss_one (ps_ret (pe_fldC c_Post n_Post_sent (pv 0)))))))
theorem m__law_put (W : Wd w K mg) : mg "_law_put" = some (.ref (He.fAd K ("_law_put", none))) := let ⟨_, X, G⟩ := W.hp; He.glo_ok X G (W.c.fact 78 (f := fun K => (He.Fa.glo "_law_put").ok K) rfl)
theorem F__law_put (W : Wd w K mg) : FnP K "_law_put" "_law_put" s__law_put (He.fAd K ("_law_put", none)) (fdOf K (He.fAd K ("_law_put", none))) := let ⟨_, F⟩ := W.c.def_ 31 (d := d__law_put) rfl; fd_at F
theorem b__law_put (W : Wd w K mg) : Binds K (fdOf K (He.fAd K ("_law_put", none))) ["_law_post", "_law_sender", "_law_receiver", "_law_parcel_here"] [] := (F__law_put W).bindsN fun _ _ _ _ _ _ us hl => match us, hl with | [_, _, _, _], _ => rfl
theorem sc__law_put : FnScope N__law_put ["_law_post", "_law_sender", "_law_receiver", "_law_parcel_here"] (defScope s__law_put) := by walk_at "sc"
theorem ok__law_put (W : Wd w K mg) : FnOk P w K mg base CX0 8 (He.fAd K ("_law_put", none)) (fdOf K (He.fAd K ("_law_put", none))) ["_law_post", "_law_sender", "_law_receiver", "_law_parcel_here"] (sp__law_put ⟨K, P, w⟩) := by
  have G_Post_put := ok_Post_put (P := P) (w := w) (base := base) W
  have b_Post_put := b_Post_put W
  have k_Post_put := (F_Post_put W).kp
  have c_Post := c_Post W
  have mt_Post_put := mt_Post_put W
  have gc_BadValue := gc_BadValue W
  have ext_0 := ext_0 W
  have gc_BadBody := gc_BadBody W
  have gc_BadLetter := gc_BadLetter W
  have gc_BadMail := gc_BadMail W
  have gc_Contradiction := gc_Contradiction W
  have gc_Down := gc_Down W
  have gc_Exists := gc_Exists W
  have gc_NotKeeper := gc_NotKeeper W
  have gc_NotMember := gc_NotMember W
  have gc_Unknown := gc_Unknown W
  have ist_1 := ist_1 W
  have gc_RoomError := gc_RoomError W
  have is1_2 := is1_2 W
  have is1_3 := is1_3 W
  have f_ValueError := f_ValueError W
  have f_isinstance := f_isinstance W
  refine (F__law_put W).ok sc__law_put (fun vs H Q E h => by repeat (first | (obtain ⟨e, _⟩ := h; subst e; exact rfl) | obtain ⟨_, h⟩ := h)) (fun cdv A outer s H vs Q E hr h => ?_)
  have hr_Post_put : Room 7 _ := hr.mono (by decide)
  refine ⟨t__law_put ⟨K, P, w⟩, PSs.nox ?_, pure__law_put vs H Q E h⟩
  exact (pss_cons (ps_try_asT (c := "BadValue") (tbl := [("BadBody", false), ("BadLetter", false), ("BadMail", false), ("BadValue", true), ("Contradiction", false), ("Down", false), ("Exists", false), ("NotKeeper", false), ("NotMember", false), ("Unknown", false)]) (i := 4) ext_0 rfl rfl sc__law_put.nd rfl rfl (by exact ⟨rfl, by decide, .inl gc_BadValue⟩) takes_W0 (fun W1 pn1 xe1 tk1 p1 => (pss_one (ps_ret (pe_methS (pv 0) c_Post mt_Post_put G_Post_put hr_Post_put b_Post_put (fun σ => passAt tk1 σ) (pa_cons (pv 1) (pa_cons (pv 2) (pa_cons (pv 3) pa_nil))))))) (fun sa1 oe1 scls1 sd1 pn1 hz hf => (pss_cons (ps_set (i := 5) sc__law_put.nd rfl (by first | exact Or.inl rfl | exact Or.inr rfl) (pe_callB (call_isET (cs := [.own "BadBody", .own "BadLetter", .own "BadMail", .own "Contradiction", .own "Down", .own "Exists", .own "NotKeeper", .own "NotMember", .own "Unknown"]) (tbl := [("BadBody", true), ("BadLetter", true), ("BadMail", true), ("BadValue", false), ("Contradiction", true), ("Down", true), ("Exists", true), ("NotKeeper", true), ("NotMember", true), ("Unknown", true)]) ist_1 hz hf) (by rfl) f_isinstance boot_isinstance (pa_cons (pv 4) (pa_cons (pe_tup (pa_cons (pe_glob rfl gc_BadBody rfl) (pa_cons (pe_glob rfl gc_BadLetter rfl) (pa_cons (pe_glob rfl gc_BadMail rfl) (pa_cons (pe_glob rfl gc_Contradiction rfl) (pa_cons (pe_glob rfl gc_Down rfl) (pa_cons (pe_glob rfl gc_Exists rfl) (pa_cons (pe_glob rfl gc_NotKeeper rfl) (pa_cons (pe_glob rfl gc_NotMember rfl) (pa_cons (pe_glob rfl gc_Unknown rfl) pa_nil)))))))))) pa_nil))))
      (pss_one (ps_if (PW.pt (pw_and (pt_val (pe_callB (call_isE1 (c := (.own "RoomError")) (tbl := [("BadBody", true), ("BadLetter", true), ("BadMail", true), ("BadValue", true), ("Contradiction", true), ("Down", true), ("Exists", true), ("NotKeeper", true), ("NotMember", true), ("Unknown", true)]) is1_2 hz hf) (by rfl) f_isinstance boot_isinstance (pa_cons (pv 4) (pa_cons (pe_glob rfl gc_RoomError rfl) pa_nil)))) (pw_and (pt_val (pe_callB (call_isE1 (c := (.ty "ValueError")) (tbl := [("BadBody", true), ("BadLetter", true), ("BadMail", true), ("BadValue", true), ("Contradiction", true), ("Down", true), ("Exists", true), ("NotKeeper", true), ("NotMember", true), ("Unknown", true)]) is1_3 hz hf) (by rfl) f_isinstance boot_isinstance (pa_cons (pv 4) (pa_cons (pe_bltn rfl f_ValueError (by decide +kernel) rfl) pa_nil)))) (pw_and1 (pt_not (pt_val (pv 5))))))) (pss_one (ps_ret (pe_tup (pa_cons pe_str (pa_cons pe_str pa_nil))))) pss_nil)))))
      (pss_one (ps_ret (pe_tup (pa_cons pe_str (pa_cons pe_str pa_nil))))))
theorem m__law_tries_put (W : Wd w K mg) : mg "_law_tries_put" = some (.ref (He.fAd K ("_law_tries_put", none))) := let ⟨_, X, G⟩ := W.hp; He.glo_ok X G (W.c.fact 79 (f := fun K => (He.Fa.glo "_law_tries_put").ok K) rfl)
theorem F__law_tries_put (W : Wd w K mg) : FnP K "_law_tries_put" "_law_tries_put" s__law_tries_put (He.fAd K ("_law_tries_put", none)) (fdOf K (He.fAd K ("_law_tries_put", none))) := let ⟨_, F⟩ := W.c.def_ 32 (d := d__law_tries_put) rfl; fd_at F
theorem b__law_tries_put (W : Wd w K mg) : Binds K (fdOf K (He.fAd K ("_law_tries_put", none))) ["_law_post", "_law_model", "_law_stream_here"] [] := (F__law_tries_put W).bindsN fun _ _ _ _ _ _ us hl => match us, hl with | [_, _, _], _ => rfl
theorem sc__law_tries_put : FnScope N__law_tries_put ["_law_post", "_law_model", "_law_stream_here"] (defScope s__law_tries_put) := by walk_at "sc"
theorem ok__law_tries_put (W : Wd w K mg) : FnOk P w K mg base CX0 9 (He.fAd K ("_law_tries_put", none)) (fdOf K (He.fAd K ("_law_tries_put", none))) ["_law_post", "_law_model", "_law_stream_here"] (sp__law_tries_put ⟨K, P, w⟩) := by
  have G__law_name := ok__law_name (P := P) (w := w) (base := base) W
  have m__law_name := m__law_name W
  have b__law_name := b__law_name W
  have k__law_name := (F__law_name W).kp
  have G__law_next := ok__law_next (P := P) (w := w) (base := base) W
  have m__law_next := m__law_next W
  have b__law_next := b__law_next W
  have k__law_next := (F__law_next W).kp
  have G__law_parcel := ok__law_parcel (P := P) (w := w) (base := base) W
  have m__law_parcel := m__law_parcel W
  have b__law_parcel := b__law_parcel W
  have k__law_parcel := (F__law_parcel W).kp
  have G__law_odd := ok__law_odd (P := P) (w := w) (base := base) W
  have m__law_odd := m__law_odd W
  have b__law_odd := b__law_odd W
  have k__law_odd := (F__law_odd W).kp
  have G__law_put := ok__law_put (P := P) (w := w) (base := base) W
  have m__law_put := m__law_put W
  have b__law_put := b__law_put W
  have k__law_put := (F__law_put W).kp
  have G__law_is := ok__law_is (P := P) (w := w) (base := base) W
  have m__law_is := m__law_is W
  have b__law_is := b__law_is W
  have k__law_is := (F__law_is W).kp
  refine (F__law_tries_put W).ok sc__law_tries_put (fun vs H Q E h => by repeat (first | (obtain ⟨e, _⟩ := h; subst e; exact rfl) | obtain ⟨_, h⟩ := h)) (fun cdv A outer s H vs Q E hr h => ?_)
  have hu := hu_of hr
  have hr__law_is : Room 1 _ := hr.mono (by decide)
  have hr__law_name : Room 2 _ := hr.mono (by decide)
  have hr__law_next : Room 1 _ := hr.mono (by decide)
  have hr__law_odd : Room 2 _ := hr.mono (by decide)
  have hr__law_parcel : Room 3 _ := hr.mono (by decide)
  have hr__law_put : Room 8 _ := hr.mono (by decide)
  refine ⟨t__law_tries_put ⟨K, P, w⟩, PSs.nox ?_, pure__law_tries_put vs H Q E h⟩
  exact (pss_cons (ps_set (i := 3) sc__law_tries_put.nd rfl (by first | exact Or.inl rfl | exact Or.inr rfl) (pe_call G__law_name hr__law_name rfl m__law_name k__law_name b__law_name .nil pass0 (pa_cons (pv 2) pa_nil)))
      (pss_cons (ps_set (i := 4) sc__law_tries_put.nd rfl (by first | exact Or.inl rfl | exact Or.inr rfl) (pv 3))
      (pss_mid (ps_if (pt_cmpR op_gt (pe_call G__law_next hr__law_next rfl m__law_next k__law_next b__law_next .nil pass0 (pa_cons (pv 2) (pa_cons pe_int pa_nil))) pe_int (nomark _)) (pss_one (ps_set (i := 4) sc__law_tries_put.nd rfl (by first | exact Or.inl rfl | exact Or.inr rfl) (pe_call G__law_name hr__law_name rfl m__law_name k__law_name b__law_name .nil pass0 (pa_cons (pv 2) pa_nil)))) pss_nil)
      (pss_cons (ps_set (i := 5) sc__law_tries_put.nd rfl (by first | exact Or.inl rfl | exact Or.inr rfl) (pe_call G__law_parcel hr__law_parcel rfl m__law_parcel k__law_parcel b__law_parcel .nil pass0 (pa_cons (pv 2) pa_nil)))
      (pss_cons (ps_asg (pe_call G__law_odd hr__law_odd rfl m__law_odd k__law_odd b__law_odd .nil pass0 (pa_cons (pv 2) (pa_cons (pv 5) pa_nil))) (pg_lst rfl (pgs_cons (pg_name (i := 6) sc__law_tries_put.nd rfl (by first | exact Or.inl rfl | exact Or.inr rfl)) (pgs_cons (pg_name (i := 7) sc__law_tries_put.nd rfl (by first | exact Or.inl rfl | exact Or.inr rfl)) pgs_nil))))
      (pss_cons (ps_set (i := 8) sc__law_tries_put.nd rfl (by first | exact Or.inl rfl | exact Or.inr rfl) (pe_call G__law_next hr__law_next rfl m__law_next k__law_next b__law_next .nil pass0 (pa_cons (pv 2) (pa_cons pe_int pa_nil))))
      (pss_cons (ps_if (pt_cmpR op_lt (pv 8) pe_int (nomark _)) (pss_cons (ps_set (i := 9) sc__law_tries_put.nd rfl (by first | exact Or.inl rfl | exact Or.inr rfl) (pe_ix ix_list (pe_lst (pa_cons (pe_tup (pa_cons (pv 6) (pa_cons (pv 4) (pa_cons (pv 5) pa_nil)))) (pa_cons (pe_tup (pa_cons (pv 3) (pa_cons (pv 6) (pa_cons (pv 5) pa_nil)))) (pa_cons (pe_tup (pa_cons (pv 3) (pa_cons (pv 4) (pa_cons (pv 7) pa_nil)))) pa_nil)))) (pv 8) (fun _ _ => rfl)))
      (pss_one (ps_ret (pe_cmpR (op_eqD hr.units) (pe_call G__law_put hr__law_put rfl m__law_put k__law_put b__law_put .nil pass0 (pa_cons (pv 0) (pa_cons (pe_ix ix_tup (pv 9) pe_int (fun _ _ => rfl)) (pa_cons (pe_ix ix_tup (pv 9) pe_int (fun _ _ => rfl)) (pa_cons (pe_ix ix_tup (pv 9) pe_int (fun _ _ => rfl)) pa_nil))))) (pe_tup (pa_cons pe_str (pa_cons pe_str pa_nil))) (nomark _))))) pss_nil)
      (pss_cons (ps_dput hu (pv 1) pe_str (pe_op op_add (pe_dget hu (pv 1) pe_str (fun _ _ => rfl)) pe_int) rfl)
      (pss_cons (ps_dput hu (pe_dget hu (pv 1) pe_str (fun _ _ => rfl)) (pe_dget hu (pv 1) pe_str (fun _ _ => rfl)) (pe_tup (pa_cons (pv 3) (pa_cons (pv 4) (pa_cons (pv 5) pa_nil)))) rfl)
      (pss_one (ps_ret (pe_call G__law_is hr__law_is rfl m__law_is k__law_is b__law_is .nil pass0 (pa_cons (pe_call G__law_put hr__law_put rfl m__law_put k__law_put b__law_put .nil pass0 (pa_cons (pv 0) (pa_cons (pv 3) (pa_cons (pv 4) (pa_cons (pv 5) pa_nil))))) (pa_cons (pe_dget hu (pv 1) pe_str (fun _ _ => rfl)) pa_nil))))))))))))))
theorem m_law (W : Wd w K mg) : mg "law" = some (.ref (He.fAd K ("law", none))) := let ⟨_, X, G⟩ := W.hp; He.glo_ok X G (W.c.fact 80 (f := fun K => (He.Fa.glo "law").ok K) rfl)
theorem F_law (W : Wd w K mg) : FnP K "law" "law" s_law (He.fAd K ("law", none)) (fdOf K (He.fAd K ("law", none))) := let ⟨_, F⟩ := W.c.def_ 33 (d := d_law) rfl; fd_at F
theorem b_law (W : Wd w K mg) : Binds K (fdOf K (He.fAd K ("law", none))) ["_law_script"] [] := (F_law W).bindsN fun _ _ _ _ _ _ us hl => match us, hl with | [_], _ => rfl
theorem sc_law : FnScope N_law ["_law_script"] (defScope s_law) := by walk_at "sc"
theorem ok_law (W : Wd w K mg) : FnOk P w K mg base CX0 10 (He.fAd K ("law", none)) (fdOf K (He.fAd K ("law", none))) ["_law_script"] (sp_law ⟨K, P, w⟩) := by
  have G_Post___init__ := ok_Post___init__ (P := P) (w := w) (base := base) W
  have b_Post___init__ := b_Post___init__ W
  have k_Post___init__ := (F_Post___init__ W).kp
  have G__law_stream := ok__law_stream (P := P) (w := w) (base := base) W
  have m__law_stream := m__law_stream W
  have b__law_stream := b__law_stream W
  have k__law_stream := (F__law_stream W).kp
  have G__law_next := ok__law_next (P := P) (w := w) (base := base) W
  have m__law_next := m__law_next W
  have b__law_next := b__law_next W
  have k__law_next := (F__law_next W).kp
  have G__law_tries_put := ok__law_tries_put (P := P) (w := w) (base := base) W
  have m__law_tries_put := m__law_tries_put W
  have b__law_tries_put := b__law_tries_put W
  have k__law_tries_put := (F__law_tries_put W).kp
  have G__law_tries_number := ok__law_tries_number (P := P) (w := w) (base := base) W
  have m__law_tries_number := m__law_tries_number W
  have b__law_tries_number := b__law_tries_number W
  have k__law_tries_number := (F__law_tries_number W).kp
  have G__law_same := ok__law_same (P := P) (w := w) (base := base) W
  have m__law_same := m__law_same W
  have b__law_same := b__law_same W
  have k__law_same := (F__law_same W).kp
  have G__law_asked := ok__law_asked (P := P) (w := w) (base := base) W
  have m__law_asked := m__law_asked W
  have b__law_asked := b__law_asked W
  have k__law_asked := (F__law_asked W).kp
  have mk_Post := mk_Post W
  have gc_Post := gc_Post W
  have f_len := f_len W
  have f_min := f_min W
  have f_range := f_range W
  refine (F_law W).ok sc_law (fun vs H Q E h => by repeat (first | (obtain ⟨e, _⟩ := h; subst e; exact rfl) | obtain ⟨_, h⟩ := h)) (fun cdv A outer s H vs Q E hr h => ?_)
  have hu := hu_of hr
  have hr__law_asked : Room 2 _ := hr.mono (by decide)
  have hr__law_next : Room 1 _ := hr.mono (by decide)
  have hr__law_same : Room 3 _ := hr.mono (by decide)
  have hr__law_stream : Room 1 _ := hr.mono (by decide)
  have hr__law_tries_number : Room 3 _ := hr.mono (by decide)
  have hr__law_tries_put : Room 9 _ := hr.mono (by decide)
  refine ⟨t_law ⟨K, P, w⟩, PSs.nox ?_, pure_law vs H Q E h⟩
  exact (pss_cons (ps_set (i := 1) sc_law.nd rfl (by first | exact Or.inl rfl | exact Or.inr rfl) (pe_lst (pa_cons (pe_make0 mk_Post G_Post___init__ (hr.mono (by decide)) rfl gc_Post b_Post___init__ .nil pass0) (pa_cons (pe_make0 mk_Post G_Post___init__ (hr.mono (by decide)) rfl gc_Post b_Post___init__ .nil pass0) pa_nil))))
      (pss_cons (ps_set (i := 2) sc_law.nd rfl (by first | exact Or.inl rfl | exact Or.inr rfl) (pe_lst (pa_cons (pe_disp (pps_cons pe_str pe_int (pps_cons pe_str pe_dnewK pps_nil)) (by rfl) (by rfl) (fun z => by cases z) (by decide)) (pa_cons (pe_disp (pps_cons pe_str pe_int (pps_cons pe_str pe_dnewK pps_nil)) (by rfl) (by rfl) (fun z => by cases z) (by decide)) pa_nil))))
      (pss_cons (ps_for PassesOwn.never rfl (pi_range1 rfl f_range (pa_cons (pe_callB (call_min2 rfl) (by rfl) f_min boot_min (pa_cons (pe_callB call_len (by rfl) f_len boot_len (pa_cons (pv 0) pa_nil)) (pa_cons pe_int pa_nil))) pa_nil)) (pg_name (i := 3) sc_law.nd rfl (by first | exact Or.inl rfl | exact Or.inr rfl)) (pss_cons (ps_set (i := 4) sc_law.nd rfl (by first | exact Or.inl rfl | exact Or.inr rfl) (pe_call G__law_stream hr__law_stream rfl m__law_stream k__law_stream b__law_stream .nil pass0 (pa_cons (pe_ix ix_list (pv 0) (pv 3) (fun _ _ => rfl)) (pa_cons (pv 3) pa_nil))))
      (pss_cons (ps_set (i := 5) sc_law.nd rfl (by first | exact Or.inl rfl | exact Or.inr rfl) (pe_call G__law_next hr__law_next rfl m__law_next k__law_next b__law_next .nil pass0 (pa_cons (pv 4) (pa_cons pe_int pa_nil))))
      (pss_cons (ps_set (i := 6) sc_law.nd rfl (by first | exact Or.inl rfl | exact Or.inr rfl) (pe_call G__law_next hr__law_next rfl m__law_next k__law_next b__law_next .nil pass0 (pa_cons (pv 4) (pa_cons pe_int pa_nil))))
      (pss_mid (ps_if (pt_cmpR op_lt (pv 6) pe_int (nomark _)) (pss_one (ps_set (i := 7) sc_law.nd rfl (by first | exact Or.inl rfl | exact Or.inr rfl) (pe_call G__law_tries_put hr__law_tries_put rfl m__law_tries_put k__law_tries_put b__law_tries_put .nil pass0 (pa_cons (pe_ix ix_list (pv 1) (pv 5) (fun _ _ => rfl)) (pa_cons (pe_ix ix_list (pv 2) (pv 5) (fun _ _ => rfl)) (pa_cons (pv 4) pa_nil)))))) (pss_one (ps_set (i := 7) sc_law.nd rfl (by first | exact Or.inl rfl | exact Or.inr rfl) (pe_call G__law_tries_number hr__law_tries_number rfl m__law_tries_number k__law_tries_number b__law_tries_number .nil pass0 (pa_cons (pe_ix ix_list (pv 1) (pv 5) (fun _ _ => rfl)) (pa_cons (pe_ix ix_list (pv 2) (pv 5) (fun _ _ => rfl)) (pa_cons (pv 4) (pa_cons (pe_cmpR op_gt (pv 6) pe_int (nomark _)) pa_nil))))))))
      (pss_one (ps_if (PW.pt (pw_or (pt_not (pt_val (pv 7))) (pw_or (pt_not (pt_val (pe_call G__law_same hr__law_same rfl m__law_same k__law_same b__law_same .nil pass0 (pa_cons (pe_ix ix_list (pv 1) pe_int (fun _ _ => rfl)) (pa_cons (pe_ix ix_list (pv 2) pe_int (fun _ _ => rfl)) pa_nil))))) (pw_or1 (pt_not (pt_val (pe_call G__law_same hr__law_same rfl m__law_same k__law_same b__law_same .nil pass0 (pa_cons (pe_ix ix_list (pv 1) pe_int (fun _ _ => rfl)) (pa_cons (pe_ix ix_list (pv 2) pe_int (fun _ _ => rfl)) pa_nil))))))))) (pss_one (ps_ret pe_bl)) pss_nil)))))))
      (pss_cons (ps_for PassesOwn.never rfl (pi_range1 rfl f_range (pa_cons pe_int pa_nil)) (pg_name (i := 5) sc_law.nd rfl (by first | exact Or.inl rfl | exact Or.inr rfl)) (pss_one (ps_for PassesOwn.never rfl (pi_range1 rfl f_range (pa_cons (pe_op op_add (pe_dget hu (pe_ix ix_list (pv 2) (pv 5) (fun _ _ => rfl)) pe_str (fun _ _ => rfl)) pe_int) pa_nil)) (pg_name (i := 8) sc_law.nd rfl (by first | exact Or.inl rfl | exact Or.inr rfl)) (pss_cons (ps_set (i := 9) sc_law.nd rfl (by first | exact Or.inl rfl | exact Or.inr rfl) (pe_call G__law_asked hr__law_asked rfl m__law_asked k__law_asked b__law_asked .nil pass0 (pa_cons (pe_ix ix_list (pv 1) (pv 5) (fun _ _ => rfl)) (pa_cons (pv 8) (pa_cons pe_bl pa_nil)))))
      (pss_one (ps_if (pt_cmpR (op_neD hr.units) (pv 9) (pe_dget2 hu (pe_dget hu (pe_ix ix_list (pv 2) (pv 5) (fun _ _ => rfl)) pe_str (fun _ _ => rfl)) (pv 8) (pe_tup (pa_cons pe_str (pa_cons pe_str pa_nil))) ⟨rfl, rfl, rfl, rfl⟩) (nomark _)) (pss_one (ps_ret pe_bl)) pss_nil))))))
      (pss_one (ps_ret (pe_and (pe_call G__law_same hr__law_same rfl m__law_same k__law_same b__law_same .nil pass0 (pa_cons (pe_ix ix_list (pv 1) pe_int (fun _ _ => rfl)) (pa_cons (pe_ix ix_list (pv 2) pe_int (fun _ _ => rfl)) pa_nil))) (pe_one (pe_call G__law_same hr__law_same rfl m__law_same k__law_same b__law_same .nil pass0 (pa_cons (pe_ix ix_list (pv 1) pe_int (fun _ _ => rfl)) (pa_cons (pe_ix ix_list (pv 2) pe_int (fun _ _ => rfl)) pa_nil)))))))))))
end
theorem facts {P : Program} {w : World} {K : PySem.W.Frag} {h : Heap} {mg : Str → Option Value} {f : Addr} (X : K.In h) (G : h.Ns mainGlobals mg) (hfa : mg ("law" : Str) = some (.ref f)) (c : SaysX faL fnL tsL w K) :
    ∃ fd : FuncData, (∀ (s : Shared) (v : Value), BindsTo s fd ⟨[v], []⟩ [("_law_script", v)]) ∧ ∀ base : Heap, K.In base → base.Ns mainGlobals mg → FnOk P w K mg base CX0 10 f fd ["_law_script"] (sp_law ⟨K, P, w⟩) := by
  have W : Wd w K mg := ⟨⟨h, X, G⟩, c⟩
  have e := hfa.symm.trans (m_law W)
  cases e
  have b := FunD.bindsA (ps := ["_law_script"]) (F_law W) fun _ _ _ _ _ _ us hl => match us, hl with | [_], _ => rfl
  exact ⟨_, fun s v => b s [v] rfl, fun base _ _ => ok_law W⟩
abbrev Rw : PySem.W.OpenRow := PySem.W.OpenLaw.row PySem.Challenge.rw_lettersonce_k45_the_post
abbrev hk : PySem.W.Hook := hookX 5 faL fnL tsL
def ob (s : PySem.W.SharedT) : AlX := obsXG 5 faL fnL tsL (HandSHeadRun.getT s)
theorem ob_eq (s : PySem.W.SharedT) : ob s = hk.obs s.abs := obsXG_eq (HandSHeadRun.getT_eq s)
def looseL_0 : List Str := ["RoomError",
  "BadBody",
  "BadLetter",
  "BadMail",
  "BadValue",
  "Contradiction",
  "Down",
  "Exists",
  "NotKeeper",
  "NotMember",
  "Unknown",
  "LETTERS",
  "DIGITS",
  "LONGEST_NAME",
  "GREATEST_NUMBER",
  "LONGEST_TEXT",
  "LONGEST_TITLE",
  "is_name",
  "is_number",
  "is_plain",
  "is_text",
  "is_title",
  "is_ref",
  "is_room",
  "MOST_MEMBERS"]
def looseL_1 : List Str := ["PARTS",
  "is_members",
  "is_body",
  "is_seen",
  "is_letter",
  "is_pair",
  "are_counts",
  "are_values",
  "is_parcel",
  "Post",
  "_law_stream",
  "_law_next",
  "_law_is",
  "_law_name",
  "_law_parcel",
  "_law_odd",
  "_law_put",
  "_law_asked",
  "_law_same",
  "_law_tries_put",
  "_law_tries_number"]
def looseL : List Str := (looseL_0 : List Str) ++ (looseL_1 : List Str)
theorem run (w : World) : HandSHeadRun.RunEq Rw (PySem.W.view Rw.prog [53]) hk ob 8000 looseL w :=
  PySem.W.byRow2 "special-get-raises" (P := fun w => HandSHeadRun.RunEq Rw (PySem.W.view Rw.prog [53]) hk ob 8000 looseL w) (fun w os => by kernel_rfl) (fun w os => by kernel_rfl) w
end
end LO
open PySem PySem.W PySem.Calls PyProof.Rows
set_option maxHeartbeats 0 in
theorem PySem.Challenge.cw_lettersonce_k45_the_post_holds : PySem.Challenge.rw_lettersonce_k45_the_post.Holds := by
  w_on; o_law
  refine HandSHeadRun.head_any (r := OpenLaw.row PySem.Challenge.rw_lettersonce_k45_the_post) (q := view (OpenLaw.row PySem.Challenge.rw_lettersonce_k45_the_post).prog [53]) (H := LO.hk) (ob := LO.ob) (M := 8000) (loose := LO.looseL) (d := HandSHeadRun.topDef (OpenLaw.row PySem.Challenge.rw_lettersonce_k45_the_post).prog 53) (kwd := []) LO.ob_eq
    (by kernel_rfl) (fun s => by kernel_rfl) LO.run (by kernel_rfl) (by kernel_rfl) (by kernel_rfl) (by rfl) (by first | assumption | decide +kernel) (by decide +kernel) ⟨rfl, rfl, rfl, rfl, rfl, by decide +kernel⟩ ?hw ?hc
  case hw => w_witness2
  case hc =>
    refine L2.walk_ofE (l := PySem.Challenge.rw_lettersonce_k45_the_post) (n := 63) (k := 10) (x := "_law_script") (CX := L2.CX0) rfl (by decide) (by kernel_rfl) ⟨rfl, by decide, by decide⟩ ?F (fun _ _ _ _ z => z)
    intro w mg fa h Y G hmg0
    obtain ⟨K, KX, c⟩ := Y
    have hmg : mg ("law" : PySem.Str) = some (.ref fa) := by
      have e : (HandSHeadRun.topDef (OpenLaw.row PySem.Challenge.rw_lettersonce_k45_the_post).prog 53).name = ("law" : PySem.Str) := by kernel_rfl
      rw [← e]
      exact hmg0
    obtain ⟨fd, hb, hF⟩ := LO.facts (P := (PySem.Challenge.rw_lettersonce_k45_the_post).prog) (w := w) KX G hmg c
    exact ⟨K, fd, LO.sp_law ⟨K, (PySem.Challenge.rw_lettersonce_k45_the_post).prog, w⟩, KX, hb, fun H a ns hl _ hS => ⟨a, ns, rfl, hS, hl, fun _ => rfl⟩, hF⟩
#print axioms PySem.Challenge.cw_lettersonce_k45_the_post_holds
