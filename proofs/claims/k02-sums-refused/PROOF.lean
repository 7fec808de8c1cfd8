import PyProof.Rows.All
import Wide.All
import OpenK.AllK
import Wide.FinOn
import HandS.ForMost
import HandS.ForExc
import HandS.Flow
import HandS.Wide
import HandS.IsInst
import HandS.ExcIs
import HandS.ExcField
import HandS.RaiseMore
import HandS.Star
import HandS.EndBits
import HandS.Walk
import HandS.ExcInit
import KE.KExcIs
import KE.KStateDown
import Lean
import HandS.Defaults
import HandS.Head0
import HandS.Head1
import HandS.Head2
import HandS.HeadEnd
import HandS.HeadHook1
import HandS.HeadHook2
import HandS.HeadHook3
import HandS.HeadHook4
import HandS.EndTab
import HandS.HeadWalk
import KE.KWords
import PySem.Challenge.RW_nowlater_k02_sums_refused
set_option Elab.async false
set_option linter.all false
set_option maxRecDepth 100000
set_option maxHeartbeats 4000000
namespace NL
open PySem L2

/-! ### step lemmas: one a reading -/
section
variable {σ : L2.St} {H : Hp} {D : Ends} {i : Nat} {v : V} {Q : VK} {QB : Bool → Hp → Prop} {QA : List V → Hp → Prop}
theorem g_var (e : σ[i]? = some (some v)) (h : Q v H) : tVar i σ H Q := ⟨v, e, h⟩
theorem g_c (h : Q v H) : tC v σ H Q := h
theorem g_op {r : R2} {ta tb : TE} (h : ta σ H fun x H1 => tb σ H1 fun y H2 => r x y H2 Q) : tOp r ta tb σ H Q := h
theorem g_un {r : V → Hp → VK → Prop} {ta : TE} (h : ta σ H fun x H1 => r x H1 Q) : tUn r ta σ H Q := h
theorem g_test {te : TE} (h : te σ H fun x H' => ∃ k, x = .bl k ∧ QB k H') : tTest te σ H QB := h
theorem g_tb {te : TE} (h : te σ H fun x H' => ∃ k, x = .bl k ∧ QB k H') : tB te σ H QB := h
theorem g_bl {b : Bool} {PB : Bool → Prop} (h : PB b) : ∃ k, V.bl b = .bl k ∧ PB k := ⟨b, rfl, h⟩
theorem g_not {t : TT} (h : t σ H fun c H1 => QB (!c) H1) : tNot t σ H QB := h
theorem g_and {t u : TT} (h : t σ H fun c H1 => if c = true then u σ H1 QB else QB false H1) : tAnd t u σ H QB := h
theorem g_or {t u : TT} (h : t σ H fun c H1 => if c = true then QB true H1 else u σ H1 QB) : tOr t u σ H QB := h
theorem g_andT {K : PySem.W.Frag} {ta tb : TE} (h : ta σ H fun x H1 => ∃ k, TruV K x H1 k ∧ if k = true then tb σ H1 Q else Q x H1) : tAndT K ta tb σ H Q := h
theorem g_orT {K : PySem.W.Frag} {ta tb : TE} (h : ta σ H fun x H1 => ∃ k, TruV K x H1 k ∧ if k = true then Q x H1 else tb σ H1 Q) : tOrT K ta tb σ H Q := h
theorem g_notT {K : PySem.W.Frag} {ta : TE} (h : ta σ H fun x H1 => ∃ k, TruV K x H1 k ∧ Q (.bl (!k)) H1) : tNotT K ta σ H Q := h
theorem g_ifE {t : TT} {ta tb : TE} (h : t σ H fun c H1 => if c = true then ta σ H1 Q else tb σ H1 Q) : tIf t ta tb σ H Q := h
theorem g_cb {r : List V → Hp → VK → Prop} {t : TA} (h : t σ H fun vs H1 => r vs H1 Q) : tCB r t σ H Q := h
theorem g_nil (h : QA [] H) : tNil σ H QA := h
theorem g_cons {ta : TE} {tr : TA} (h : ta σ H fun x H1 => tr σ H1 fun xs H2 => QA (x :: xs) H2) : tCons ta tr σ H QA := h
theorem g_callS {sp : Sp} {E : L2.St → XK} {t : TA} (h : t σ H fun vs H1 => sp vs H1 Q (E σ)) : tCallS sp E t σ H Q := h
/-- statements; the ends by places -/
theorem g_seq {t u : TS} {nx : L2.St → Hp → Prop} {rt : VK} {bk ct : L2.St → Hp → Prop} (h : t ⟨u ⟨nx, rt, bk, ct⟩, rt, bk, ct⟩ σ H) : tSeq t u ⟨nx, rt, bk, ct⟩ σ H := h
theorem g_next {nx : L2.St → Hp → Prop} {rt : VK} {bk ct : L2.St → Hp → Prop} (h : nx σ H) : tNext ⟨nx, rt, bk, ct⟩ σ H := h
theorem g_brk {nx : L2.St → Hp → Prop} {rt : VK} {bk ct : L2.St → Hp → Prop} (h : bk σ H) : tBreak ⟨nx, rt, bk, ct⟩ σ H := h
theorem g_cont {nx : L2.St → Hp → Prop} {rt : VK} {bk ct : L2.St → Hp → Prop} (h : ct σ H) : tCont ⟨nx, rt, bk, ct⟩ σ H := h
theorem g_asg {te : TE} {g : TG} {nx : L2.St → Hp → Prop} {rt : VK} {bk ct : L2.St → Hp → Prop} (h : te σ H fun x H1 => g x σ H1 nx) : tAsg te g ⟨nx, rt, bk, ct⟩ σ H := h
theorem g_drop {te : TE} {nx : L2.St → Hp → Prop} {rt : VK} {bk ct : L2.St → Hp → Prop} (h : te σ H fun _ H1 => nx σ H1) : tDrop te ⟨nx, rt, bk, ct⟩ σ H := h
theorem g_ret {te : TE} {nx : L2.St → Hp → Prop} {rt : VK} {bk ct : L2.St → Hp → Prop} (h : te σ H rt) : tRet te ⟨nx, rt, bk, ct⟩ σ H := h
theorem g_retN {nx : L2.St → Hp → Prop} {rt : VK} {bk ct : L2.St → Hp → Prop} (h : rt .non H) : tRetN ⟨nx, rt, bk, ct⟩ σ H := h
theorem g_ifS {c : TT} {t u : TS} (h : c σ H fun b H1 => if b = true then t D σ H1 else u D σ H1) : tIfS c t u D σ H := h
theorem g_name {QS : L2.St → Hp → Prop} (h : QS (σ.set i (some v)) H) : gName i v σ H QS := h
theorem g_sub {QS : L2.St → Hp → Prop} {to ti : TE} {t : TSet} (h : to σ H fun o H1 => ti σ H1 fun i H2 => t o i v H2 fun H3 => QS σ H3) : gSub to ti t v σ H QS := h
theorem g_aug {x : V} {te : TE} {ti : TIp} {nx : L2.St → Hp → Prop} {rt : VK} {bk ct : L2.St → Hp → Prop} (e : σ[i]? = some (some x)) (h : te σ H fun y H1 => ti x y H1 fun z H2 => nx (σ.set i (some z)) H2) : tAug i te ti ⟨nx, rt, bk, ct⟩ σ H := ⟨x, e, h⟩
theorem g_gtup {K : PySem.W.Frag} {n : Nat} {t : TGs} {a : Addr} {xs : List V} {QS : L2.St → Hp → Prop} (h1 : SqT K H a xs) (h2 : xs.length = n) (h : t xs σ H QS) : gTup K n t (.ref a) σ H QS := ⟨a, xs, rfl, h1, h2, h⟩
theorem g_gcons {t : TG} {u : TGs} {r : List V} {QS : L2.St → Hp → Prop} (h : t v σ H fun σ' H' => u r σ' H' QS) : gCons t u (v :: r) σ H QS := ⟨v, r, rfl, h⟩
theorem g_gnil {QS : L2.St → Hp → Prop} (h : QS σ H) : gNil [] σ H QS := ⟨rfl, h⟩
theorem g_lst {t : TA} (h : t σ H fun xs H1 => xs.length ≤ sizeLine ∧ ∀ p, H1 p = none → Q (.ref p) (upd H1 p (.lst xs))) : tLst t σ H Q := h
theorem g_tup {t : TA} (h : t σ H fun xs H1 => xs.length ≤ sizeLine ∧ ∀ p, H1 p = none → Q (.ref p) (upd H1 p (.tup xs))) : tTup t σ H Q := h
theorem g_ite {b : Bool} {A B : Prop} (h1 : b = true → A) (h2 : b = false → B) : if b = true then A else B := by
  cases b
  · exact iteF (h2 rfl)
  · exact iteT (h1 rfl)
theorem g_iteD {c A B : Prop} [Decidable c] (h1 : c → A) (h2 : ¬ c → B) : if decide c = true then A else B :=
  g_ite (fun e => h1 (of_decide_eq_true e)) fun e => h2 (of_decide_eq_false e)
theorem g_iteN {c A B : Prop} [Decidable c] (h1 : ¬ c → A) (h2 : c → B) : if (!decide c) = true then A else B :=
  g_ite (fun e => h1 (by intro z; rw [decide_eq_true z] at e; cases e)) fun e => h2 (by
    by_cases z : c
    · exact z
    · rw [decide_eq_false z] at e; cases e)
theorem g_iteT {b : Bool} {A B : Prop} (e : b = true) (h : A) : if b = true then A else B := by rw [e]; exact iteT h
theorem g_iteF {b : Bool} {A B : Prop} (e : b = false) (h : B) : if b = true then A else B := by rw [e]; exact iteF h
end

/-! ### rules by the values' own kinds -/
theorem opR_imp {X : Cx} {f : Value → Value → Sem Value} {r r' : R2} (h : OpR X f r) (i : ∀ x y H Q, r' x y H Q → r x y H Q) : OpR X f r' := fun pins s σ H x y v u Q I rx ry q => h pins s σ H x y v u Q I rx ry (i x y H Q q)
theorem callR_imp {X : Cx} {f : Value} {r r' : List V → Hp → VK → Prop} (h : CallR X f r) (i : ∀ xs H Q, r' xs H Q → r xs H Q) : CallR X f r' := fun pins s σ H xs us Q I rx q => h pins s σ H xs us Q I rx (i xs H Q q)

def dAdd : R2 := fun x y H Q => match x, y with
  | .int i, .int j => Q (.int (i + j)) H
  | .str a, .str b => a.length + b.length ≤ sizeLine ∧ Q (.str (a ++ b)) H
  | .ref p, .ref q => ∃ xs ys, H p = some (.lst xs) ∧ H q = some (.lst ys) ∧ xs.length + ys.length ≤ sizeLine ∧ ∀ l, H l = none → Q (.ref l) (upd H l (.lst (xs ++ ys)))
  | _, _ => False
theorem op_dAdd {X : Cx} : OpR X (binaryOp .Add) dAdd := by
  intro pins s σ H x y v u Q I rx ry h
  cases x <;> cases y <;> first
    | exact op_add pins s σ H _ _ v u Q I rx ry ⟨_, _, rfl, rfl, h⟩
    | exact op_add_str pins s σ H _ _ v u Q I rx ry ⟨_, _, rfl, rfl, h.1, h.2⟩
    | (obtain ⟨xs, ys, h1, h2, h3, h4⟩ := h
       exact op_cat pins s σ H _ _ v u Q I rx ry ⟨_, _, _, _, rfl, rfl, h1, h2, h3, h4⟩)
    | exact (show False from h).elim
def dSub : R2 := fun x y H Q => match x, y with
  | .int i, .int j => Q (.int (i - j)) H
  | _, _ => False
theorem op_dSub {X : Cx} : OpR X (binaryOp .Sub) dSub := opR_imp op_sub fun x y H Q h => by
  cases x <;> cases y <;> first
    | exact ⟨_, _, rfl, rfl, h⟩
    | exact (show False from h).elim
def dMul : R2 := fun x y H Q => match x, y with
  | .int i, .int j => (CMul i j ∨ CMulW i j) ∧ Q (.int (i * j)) H
  | .ref p, .int k => ∃ xs, H p = some (.lst xs) ∧ -(2 ^ 63) ≤ k ∧ k < 2 ^ 63 ∧ xs.length * k.toNat ≤ sizeLine ∧ ∀ l, H l = none → Q (.ref l) (upd H l (.lst (List.replicate k.toNat xs).flatten))
  | _, _ => False
def dMod : R2 := fun x y H Q => match x, y with
  | .int i, .int j => 0 < j ∧ Q (.int (i % j)) H
  | _, _ => False
theorem op_dMod {X : Cx} : OpR X (binaryOp .Mod) dMod := opR_imp op_mod fun x y H Q h => by
  cases x <;> cases y <;> first
    | exact ⟨_, _, rfl, rfl, h.1, h.2⟩
    | exact (show False from h).elim
def dDiv : R2 := fun x y H Q => match x, y with
  | .int i, .int j => (0 < j ∧ j.natAbs.log2 < 9000) ∧ Q (.int (i / j)) H
  | _, _ => False
theorem op_dDiv {X : Cx} : OpR X (binaryOp .FloorDiv) dDiv := opR_imp op_fdivW fun x y H Q h => by
  cases x <;> cases y <;> first
    | exact ⟨_, _, rfl, rfl, h.1, h.2⟩
    | exact (show False from h).elim
theorem op_dMul {X : Cx} : OpR X (binaryOp .Mult) dMul := by
  intro pins s σ H x y v u Q I rx ry h
  cases x <;> cases y <;> first
    | (rcases h with ⟨h | h, q⟩
       · exact op_mul pins s σ H _ _ v u Q I rx ry ⟨_, _, rfl, rfl, h, q⟩
       · exact op_mulW pins s σ H _ _ v u Q I rx ry ⟨_, _, rfl, rfl, h, q⟩)
    | (obtain ⟨xs, h1, h2, h3, h4, h5⟩ := h
       exact op_rep pins s σ H _ _ v u Q I rx ry ⟨_, _, _, rfl, rfl, h1, h2, h3, h4, h5⟩)
    | exact (show False from h).elim
def dPow : R2 := fun x y H Q => match x, y with
  | .int i, .int j => CPow i j ∧ Q (.int (i ^ j.toNat)) H
  | _, _ => False
theorem op_dPow {X : Cx} : OpR X (binaryOp .Pow) dPow := opR_imp op_pow fun x y H Q h => by
  cases x <;> cases y <;> first
    | exact ⟨_, _, rfl, rfl, h.1, h.2⟩
    | exact (show False from h).elim
/-- comparisons of ints -/
def dCmp (f : Int → Int → Bool) : R2 := fun x y H Q => match x, y with
  | .int i, .int j => Q (.bl (f i j)) H
  | _, _ => False
abbrev dLt := dCmp fun i j => decide (i < j)
abbrev dLe := dCmp fun i j => decide (i ≤ j)
abbrev dGt := dCmp fun i j => decide (j < i)
abbrev dGe := dCmp fun i j => decide (j ≤ i)
theorem dCmp_imp {f : Int → Int → Bool} (x y : V) (H : Hp) (Q : VK) (h : dCmp f x y H Q) : (rI0 fun i j => .bl (f i j)) x y H Q := by
  cases x <;> cases y <;> first
    | exact ⟨_, _, rfl, rfl, h⟩
    | exact (show False from h).elim
theorem op_dLt {X : Cx} : OpR X (compareOp .Lt) dLt := opR_imp op_lt dCmp_imp
theorem op_dLe {X : Cx} : OpR X (compareOp .LtE) dLe := opR_imp op_le dCmp_imp
theorem op_dGt {X : Cx} : OpR X (compareOp .Gt) dGt := opR_imp op_gt dCmp_imp
theorem op_dGe {X : Cx} : OpR X (compareOp .GtE) dGe := opR_imp op_ge dCmp_imp
/-- == and != : scalars, or data -/
def dEq (K : PySem.W.Frag) : R2 := fun x y H Q => rEq x y H Q ∨ rEqD K x y H Q
def dNe (K : PySem.W.Frag) : R2 := fun x y H Q => rNe x y H Q ∨ rNeD K x y H Q
theorem op_dEq0 {X : Cx} (hu : X.A.units + 64 < cLine) : OpR X (compareOp .Eq) (dEq X.K) := OpR.or op_eq (op_eqD hu)
theorem op_dNe0 {X : Cx} (hu : X.A.units + 64 < cLine) : OpR X (compareOp .NotEq) (dNe X.K) := OpR.or op_ne (op_neD hu)
/-- in, not in: one sign in a text; a flat thing in a list or tuple -/
def dIn (K : PySem.W.Frag) : R2 := fun x y H Q => match y with
  | .str z => ∃ c : Nat, x = .str ⟨#[c]⟩ ∧ Q (.bl (decide (c ∈ z.cps.toList))) H
  | .ref p => ∃ xs, (SqL K H p xs ∨ SqT K H p xs) ∧ flatV x = true ∧ xs.all flatV = true ∧ Q (.bl (inV x xs)) H
  | _ => False
def dNotIn (K : PySem.W.Frag) : R2 := fun x y H Q => match y with
  | .str z => ∃ c : Nat, x = .str ⟨#[c]⟩ ∧ Q (.bl (!decide (c ∈ z.cps.toList))) H
  | .ref p => ∃ xs, (SqL K H p xs ∨ SqT K H p xs) ∧ flatV x = true ∧ xs.all flatV = true ∧ Q (.bl (!inV x xs)) H
  | _ => False
theorem op_dIn0 {X : Cx} : OpR X (compareOp .In) (dIn X.K) := by
  intro pins s σ H x y v u Q I rx ry h
  cases y with
  | str z =>
    obtain ⟨c, e, q⟩ := h
    exact op_in_sign pins s σ H _ _ v u Q I rx ry ⟨c, z, e, rfl, q⟩
  | ref p =>
    obtain ⟨xs, h1, h2, h3, q⟩ := h
    exact op_in_seq pins s σ H _ _ v u Q I rx ry ⟨p, xs, rfl, h1, h2, h3, q⟩
  | _ => exact (show False from h).elim
theorem op_dNotIn0 {X : Cx} : OpR X (compareOp .NotIn) (dNotIn X.K) := by
  intro pins s σ H x y v u Q I rx ry h
  cases y with
  | str z =>
    obtain ⟨c, e, q⟩ := h
    exact op_notIn_sign pins s σ H _ _ v u Q I rx ry ⟨c, z, e, rfl, q⟩
  | ref p =>
    obtain ⟨xs, h1, h2, h3, q⟩ := h
    exact op_notIn_seq pins s σ H _ _ v u Q I rx ry ⟨p, xs, rfl, h1, h2, h3, q⟩
  | _ => exact (show False from h).elim
def dIs : R2 := fun x y H Q => match y with
  | .non => Q (.bl (decide (x = .non))) H
  | _ => False
def dIsNot : R2 := fun x y H Q => match y with
  | .non => Q (.bl (!decide (x = .non))) H
  | _ => False
theorem op_dIs {X : Cx} : OpR X (compareOp .Is) dIs := opR_imp op_isN fun x y H Q h => by
  cases y <;> first
    | exact ⟨rfl, h⟩
    | exact (show False from h).elim
theorem op_dIsNot {X : Cx} : OpR X (compareOp .IsNot) dIsNot := opR_imp op_notN fun x y H Q h => by
  cases y <;> first
    | exact ⟨rfl, h⟩
    | exact (show False from h).elim
/-! ### built-in calls -/
def dLen (K : PySem.W.Frag) : List V → Hp → VK → Prop := fun xs H Q => match xs with
  | [.str y] => y.length ≤ sizeLine ∧ Q (.int y.length) H
  | [.ref p] => ∃ ys, (SqL K H p ys ∨ SqT K H p ys) ∧ Q (.int ys.length) H
  | _ => False
theorem cl_len0 {X : Cx} : CallR X (.builtin "len") (dLen X.K) := by
  intro pins s σ H xs us Q I r h
  match xs, h with
  | [.str y], h => exact call_len_str pins s σ H _ us Q I r ⟨y, rfl, h.1, h.2⟩
  | [.ref p], h =>
    obtain ⟨ys, h1, q⟩ := h
    exact call_len_seq pins s σ H _ us Q I r ⟨p, ys, rfl, h1, q⟩
def dInt : List V → Hp → VK → Prop := fun xs H Q => match xs with
  | [.int i] => Q (.int i) H
  | [.bl k] => Q (.int (if k then 1 else 0)) H
  | [.str a] => ∃ n, PySem.intText? a = some n ∧ a.length ≤ 640 ∧ Q (.int n) H
  | _ => False
theorem cl_int {X : Cx} : CallR X (.type "int") dInt := by
  intro pins s σ H xs us Q I r h
  match xs, h with
  | [.int i], h => exact call_int1 pins s σ H _ us Q I r (.inl ⟨i, rfl, h⟩)
  | [.bl k], h => exact call_int1 pins s σ H _ us Q I r (.inr ⟨k, rfl, h⟩)
  | [.str a], h =>
    obtain ⟨n, h1, h2, q⟩ := h
    exact call_int_str pins s σ H _ us Q I r ⟨a, n, rfl, h1, h2, q⟩
def dStr : List V → Hp → VK → Prop := fun xs H Q => match xs with
  | [.int i] => i.natAbs.log2 < 1920 ∧ Q (.str (toString i)) H
  | [.str a] => Q (.str a) H
  | _ => False
theorem cl_str {X : Cx} : CallR X (.type "str") dStr := by
  intro pins s σ H xs us Q I r h
  match xs, h with
  | [.int i], h => exact call_str_int pins s σ H _ us Q I r ⟨i, rfl, h.1, h.2⟩
  | [.str a], h => exact SkE.call_str_str pins s σ H _ us Q I r ⟨a, rfl, h⟩
def dAbs : List V → Hp → VK → Prop := fun xs H Q => match xs with
  | [.int i] => Q (.int (if i < 0 then -i else i)) H
  | _ => False
theorem cl_abs {X : Cx} : CallR X (.builtin "abs") dAbs := by
  intro pins s σ H xs us Q I r h
  match xs, h with
  | [.int i], h => exact call_abs pins s σ H _ us Q I r ⟨i, rfl, h⟩
def dMax : List V → Hp → VK → Prop := fun xs H Q => match xs with
  | [.int i, .int j] => Q (.int (if j > i then j else i)) H
  | _ => False
theorem cl_max {X : Cx} (hc : X.calm = true) : CallR X (.builtin "max") dMax := by
  intro pins s σ H xs us Q I r h
  match xs, h with
  | [.int i, .int j], h => exact call_max2 hc pins s σ H _ us Q I r ⟨i, j, rfl, h⟩
def dMin : List V → Hp → VK → Prop := fun xs H Q => match xs with
  | [.int i, .int j] => Q (.int (if j < i then j else i)) H
  | _ => False
theorem cl_min {X : Cx} (hc : X.calm = true) : CallR X (.builtin "min") dMin := by
  intro pins s σ H xs us Q I r h
  match xs, h with
  | [.int i, .int j], h => exact call_min2 hc pins s σ H _ us Q I r ⟨i, j, rfl, h⟩
def dList (K : PySem.W.Frag) : List V → Hp → VK → Prop := fun xs H Q => match xs with
  | [.ref p] => ∃ ys, (SqL K H p ys ∨ SqT K H p ys) ∧ ∀ l, H l = none → Q (.ref l) (upd H l (.lst ys))
  | _ => False
theorem cl_list0 {X : Cx} : CallR X (.type "list") (dList X.K) := by
  intro pins s σ H xs us Q I r h
  match xs, h with
  | [.ref p], h =>
    obtain ⟨ys, h1, q⟩ := h
    exact call_list_of pins s σ H _ us Q I r ⟨p, ys, rfl, h1, q⟩
def dIsi (K : PySem.W.Frag) : List V → Hp → VK → Prop := rIsi K
theorem cl_isinstance0 {X : Cx} : CallR X (.builtin "isinstance") (dIsi X.K) := call_isi
/-! ### subscripts, slices -/
def dIx (K : PySem.W.Frag) : R2 := fun x y H Q => match x, y with
  | .ref p, .int i => ∃ xs v, (SqL K H p xs ∨ SqT K H p xs) ∧ atI xs i = some v ∧ Q v H
  | .str z, .int i => ∃ c, z.length ≤ sizeLine ∧ atI z.cps.toList i = some c ∧ Q (.str ⟨#[c]⟩) H
  | _, _ => False
theorem ix_dyn0 {X : Cx} : IxR X (dIx X.K) := by
  intro value slice pins s σ H x y v u Q I rx ry h hs
  refine ix_seq value slice pins s σ H x y v u Q I rx ry ?_ hs
  cases x <;> cases y <;> first
    | (obtain ⟨xs, w, h1 | h1, h2, q⟩ := h
       · exact .inl ⟨_, xs, _, w, rfl, rfl, h1, h2, q⟩
       · exact .inr (.inl ⟨_, xs, _, w, rfl, rfl, h1, h2, q⟩))
    | (obtain ⟨c, h1, h2, q⟩ := h
       exact .inr (.inr ⟨_, _, c, rfl, rfl, h1, h2, q⟩))
    | exact (show False from h).elim
def dSl (K : PySem.W.Frag) : V → Option Int → Option Int → Hp → VK → Prop := fun x lo hi H Q => match x with
  | .ref p => ∃ xs, SqL K H p xs ∧ ∀ l, H l = none → Q (.ref l) (upd H l (.lst (cutV xs lo hi)))
  | .str z => z.length ≤ sizeLine ∧ Q (.str (cutS z lo hi)) H
  | _ => False
theorem sl_dyn0 {X : Cx} : SlR X (dSl X.K) := by
  intro pins s σ H x v vl vu lo hi sl Q I rx hs pl pu h
  cases x with
  | ref p =>
    obtain ⟨xs, h1, q⟩ := h
    exact sl_list pins s σ H _ v vl vu lo hi sl Q I rx hs pl pu ⟨p, xs, rfl, h1, q⟩
  | str z => exact sl_str pins s σ H _ v vl vu lo hi sl Q I rx hs pl pu ⟨z, rfl, h.1, h.2⟩
  | _ => exact (show False from h).elim
section
variable {X : Cx} (K : PySem.W.Frag)
theorem op_dIn (h : X.K = K := by rfl) : OpR X (compareOp .In) (dIn K) := h ▸ op_dIn0
theorem op_dNotIn (h : X.K = K := by rfl) : OpR X (compareOp .NotIn) (dNotIn K) := h ▸ op_dNotIn0
theorem op_dEq (hu : X.A.units + 64 < cLine) (h : X.K = K := by rfl) : OpR X (compareOp .Eq) (dEq K) := h ▸ op_dEq0 hu
theorem op_dNe (hu : X.A.units + 64 < cLine) (h : X.K = K := by rfl) : OpR X (compareOp .NotEq) (dNe K) := h ▸ op_dNe0 hu
theorem cl_len (h : X.K = K := by rfl) : CallR X (.builtin "len") (dLen K) := h ▸ cl_len0
theorem cl_list (h : X.K = K := by rfl) : CallR X (.type "list") (dList K) := h ▸ cl_list0
theorem cl_isinstance (h : X.K = K := by rfl) : CallR X (.builtin "isinstance") (dIsi K) := h ▸ cl_isinstance0
theorem ix_dyn (h : X.K = K := by rfl) : IxR X (dIx K) := h ▸ ix_dyn0
theorem sl_dyn (h : X.K = K := by rfl) : SlR X (dSl K) := h ▸ sl_dyn0
end
/-! ### the forms that gen.py writes -/
section
variable {X : Cx} {x : Str} {e : Expr} {es : List Expr} {te : TE} {t : TA} {pos pos' p : Pos}
theorem q_set (i : Nat) (hN : X.N.Nodup) (he : PE X e te) (hi : X.N[i]? = some x := by rfl) (hx : Loc X.env.scope x := by first | exact Or.inl rfl | exact Or.inr rfl)
    (hs : swapsWith e (some (.Name x pos')) pos.line X.env = pure false := by rfl) (hf : X.fn x = true ∨ X.env.scope.names.lookup x = some .local := by first | exact .inl rfl | exact .inr rfl) :
    PS X (.Assign [.Name x pos'] e pos) (tAsg te (gName i)) := ps_set hN hi hx he hs hf
theorem q_name (i : Nat) (hN : X.N.Nodup) (hi : X.N[i]? = some x := by rfl) (hx : Loc X.env.scope x := by first | exact Or.inl rfl | exact Or.inr rfl)
    (hf : X.fn x = true ∨ X.env.scope.names.lookup x = some .local := by first | exact .inl rfl | exact .inr rfl) : PG X (.Name x pos) (gName i) := pg_name hN hi hx hf
theorem q_aug (i : Nat) {op : Operator} {ti : TIp} (hN : X.N.Nodup) (he : PE X e te) (ho : PIp X op ti) (hi : X.N[i]? = some x := by rfl) (hx : Loc X.env.scope x := by first | exact Or.inl rfl | exact Or.inr rfl)
    (hf : X.fn x = true ∨ X.env.scope.names.lookup x = some .local := by first | exact .inl rfl | exact .inr rfl) : PS X (.AugAssign (.Name x pos') op e pos) (tAug i te ti) := ps_aug hN hi hx he ho hf
/-- a module's name and its value -/
def GV (mg : Str → Option Value) (x : Str) (v : V) : Prop := ∃ u, mg x = some u ∧ RelV v u
theorem q_glob {v : V} (h : GV X.mg x v) (hg : Gl X x := by rfl) (hd : (x == ("__debug__" : Str)) = false := by decide) : PE X (.Name x pos) (tC v) := by
  obtain ⟨u, h1, h2⟩ := h
  exact pe_glob hg h1 h2 hd
/-- a def of the module: where it stands, how it binds, what it promises -/
structure Cal (P : Program) (w : World) (K : PySem.W.Frag) (mg : Str → Option Value) (base : Heap) (k : Nat) (x : Str) (ps : List Str) (sp : Sp) : Prop where
  ex : ∃ f fd, mg x = some (.ref f) ∧ PySem.W.keepIn K (.ref f) = true ∧ Binds K fd ps [] ∧ FnOk P w K mg base (L2.CX P w) k f fd ps sp
theorem q_call {W : WX} {k : Nat} {ps : List Str} {sp : Sp} (C : Cal X.prog X.w X.K X.mg X.base k x ps sp) (tk : Takes X W) (hr : Room k X.A) (ha : PA X (e :: es) t) (hg : Gl X x := by rfl) (hdb : (x == ("__debug__" : Str)) = false := by decide)
    (he : starEach (e :: es) X.env = (false, eval e X.env) :: starEach es X.env := by rfl) (hpl : (backTo pos (starEach es X.env)).any (·.1) = false := by rfl) :
    PE X (.Call (.Name x p) (e :: es) [] pos) (tCallS sp (WE W) t) := by
  obtain ⟨f, fd, h1, h2, h3, h4⟩ := C.ex
  exact pe_callS h4 hr hg h1 h2 h3 (fun σ => passAt tk σ) ha hdb he hpl
end

/-! ### step lemmas of the rules by kinds -/
section
variable {K : PySem.W.Frag} {H : Hp} {Q : VK} {i j : Int} {a b : Str} {p : Addr} {xs : List V} {v : V} {k : Bool}
theorem g_add_i (h : Q (.int (i + j)) H) : dAdd (.int i) (.int j) H Q := h
theorem g_add_s (z : a.length + b.length ≤ sizeLine) (h : Q (.str (a ++ b)) H) : dAdd (.str a) (.str b) H Q := ⟨z, h⟩
theorem g_sub_i (h : Q (.int (i - j)) H) : dSub (.int i) (.int j) H Q := h
theorem g_mul_i (z : CMul i j ∨ CMulW i j) (h : Q (.int (i * j)) H) : dMul (.int i) (.int j) H Q := ⟨z, h⟩
theorem g_mod_i (z : 0 < j) (h : Q (.int (i % j)) H) : dMod (.int i) (.int j) H Q := ⟨z, h⟩
theorem g_div_i (z : 0 < j ∧ j.natAbs.log2 < 9000) (h : Q (.int (i / j)) H) : dDiv (.int i) (.int j) H Q := ⟨z, h⟩
theorem g_pow_i (z : CPow i j) (h : Q (.int (i ^ j.toNat)) H) : dPow (.int i) (.int j) H Q := ⟨z, h⟩
theorem g_cmp_i {f : Int → Int → Bool} (h : Q (.bl (f i j)) H) : dCmp f (.int i) (.int j) H Q := h
theorem dec_i : decide (V.int i = V.int j) = decide (i = j) := by simp
theorem dec_s : decide (V.str a = V.str b) = decide (a = b) := by simp
theorem dec_b {c d : Bool} : decide (V.bl c = V.bl d) = decide (c = d) := by simp
theorem g_eq_i (h : Q (.bl (decide (i = j))) H) : dEq K (.int i) (.int j) H Q := .inl ⟨rfl, by rw [dec_i]; exact h⟩
theorem g_eq_s (h : Q (.bl (decide (a = b))) H) : dEq K (.str a) (.str b) H Q := .inl ⟨rfl, by rw [dec_s]; exact h⟩
theorem g_eq_b {c d : Bool} (h : Q (.bl (decide (c = d))) H) : dEq K (.bl c) (.bl d) H Q := .inl ⟨rfl, by rw [dec_b]; exact h⟩
theorem g_ne_i (h : Q (.bl (!decide (i = j))) H) : dNe K (.int i) (.int j) H Q := .inl ⟨rfl, by rw [dec_i]; exact h⟩
theorem g_ne_s (h : Q (.bl (!decide (a = b))) H) : dNe K (.str a) (.str b) H Q := .inl ⟨rfl, by rw [dec_s]; exact h⟩
theorem g_ne_b {c d : Bool} (h : Q (.bl (!decide (c = d))) H) : dNe K (.bl c) (.bl d) H Q := .inl ⟨rfl, by rw [dec_b]; exact h⟩
theorem g_len_s (z : a.length ≤ sizeLine) (h : Q (.int a.length) H) : dLen K [.str a] H Q := ⟨z, h⟩
theorem g_len_l (z : SqL K H p xs ∨ SqT K H p xs) (h : Q (.int xs.length) H) : dLen K [.ref p] H Q := ⟨xs, z, h⟩
theorem g_int_i (h : Q (.int i) H) : dInt [.int i] H Q := h
theorem g_int_s {n : Int} (z1 : PySem.intText? a = some n) (z2 : a.length ≤ 640) (h : Q (.int n) H) : dInt [.str a] H Q := ⟨n, z1, z2, h⟩
theorem g_str_i (z : i.natAbs.log2 < 1920) (h : Q (.str (toString i)) H) : dStr [.int i] H Q := ⟨z, h⟩
theorem g_str_s (h : Q (.str a) H) : dStr [.str a] H Q := h
theorem g_abs (h : Q (.int (if i < 0 then -i else i)) H) : dAbs [.int i] H Q := h
theorem g_max (h : Q (.int (if j > i then j else i)) H) : dMax [.int i, .int j] H Q := h
theorem g_min (h : Q (.int (if j < i then j else i)) H) : dMin [.int i, .int j] H Q := h
theorem g_ix_l (z1 : SqL K H p xs ∨ SqT K H p xs) (z2 : atI xs i = some v) (h : Q v H) : dIx K (.ref p) (.int i) H Q := ⟨xs, v, z1, z2, h⟩
theorem g_ix_s {c : Nat} (z1 : a.length ≤ sizeLine) (z2 : atI a.cps.toList i = some c) (h : Q (.str ⟨#[c]⟩) H) : dIx K (.str a) (.int i) H Q := ⟨c, z1, z2, h⟩
theorem g_setL {QH : Hp → Prop} {n : Nat} (z1 : H p = some (.lst xs)) (z2 : ixN xs.length i = some n) (h : QH (upd H p (.lst (xs.set n v)))) : rSetL (.ref p) (.int i) v H QH := ⟨p, xs, i, n, rfl, rfl, z1, z2, h⟩
theorem g_isN (h : Q (.bl (decide (v = .non))) H) : dIs v .non H Q := h
theorem g_isNotN (h : Q (.bl (!decide (v = .non))) H) : dIsNot v .non H Q := h
end
theorem bt_len : bootBuiltins "len" = some (.builtin "len") := by decide +kernel
theorem bt_abs : bootBuiltins "abs" = some (.builtin "abs") := by decide +kernel
theorem bt_max : bootBuiltins "max" = some (.builtin "max") := by decide +kernel
theorem bt_min : bootBuiltins "min" = some (.builtin "min") := by decide +kernel
theorem bt_isinstance : bootBuiltins "isinstance" = some (.builtin "isinstance") := by decide +kernel
theorem bt_sorted : bootBuiltins "sorted" = some (.builtin "sorted") := by decide +kernel
theorem bt_sum : bootBuiltins "sum" = some (.builtin "sum") := by decide +kernel
theorem bt_repr : bootBuiltins "repr" = some (.builtin "repr") := by decide +kernel
theorem bt_any : bootBuiltins "any" = some (.builtin "any") := by decide +kernel
theorem bt_all : bootBuiltins "all" = some (.builtin "all") := by decide +kernel
theorem bt_int : bootBuiltins "int" = some (.type "int") := by decide +kernel
theorem bt_str : bootBuiltins "str" = some (.type "str") := by decide +kernel
theorem bt_bool : bootBuiltins "bool" = some (.type "bool") := by decide +kernel
theorem bt_list : bootBuiltins "list" = some (.type "list") := by decide +kernel
theorem bt_tuple : bootBuiltins "tuple" = some (.type "tuple") := by decide +kernel
theorem bt_dict : bootBuiltins "dict" = some (.type "dict") := by decide +kernel
theorem bt_set : bootBuiltins "set" = some (.type "set") := by decide +kernel
theorem bt_ValueError : bootBuiltins "ValueError" = some (.type "ValueError") := by decide +kernel
theorem bt_LookupError : bootBuiltins "LookupError" = some (.type "LookupError") := by decide +kernel
theorem bt_RuntimeError : bootBuiltins "RuntimeError" = some (.type "RuntimeError") := by decide +kernel
theorem bt_Exception : bootBuiltins "Exception" = some (.type "Exception") := by decide +kernel
theorem q_bltn {X : Cx} {x : Str} {n : String} {pos : Pos} (hm : X.mg x = none) (hv : bootBuiltins x = some (.type n)) (hg : Gl X x := by rfl) (hn : x ≠ "__name__" := by decide) (hd : (x == ("__debug__" : Str)) = false := by decide) : PE X (.Name x pos) (tC (.ty n)) :=
  pe_bltn hg hm hv rfl hn hd
/-! ### loops -/
def Loop (J : It) (g : TG) (tb : TS) (D : Ends) (σ : L2.St) (H : Hp) : Prop := ∃ W : Nat → Nat → L2.St → Hp → Prop, (∃ m, W 0 m σ H) ∧ ∀ i m σ H, W i m σ H →
  (J.stop i H ∧ D.nx σ H) ∨ (J.go i H ∧ ∃ N : L2.St → Hp → Prop, (∀ σ' H', N σ' H' → ∃ m', m' < m ∧ W (i + 1) m' σ' H') ∧ ∀ x H', J.yld i H x H' → g x σ H' fun σ2 H2 => tb { D with nx := N, ct := N, bk := D.nx } σ2 H2)
def LoopC (J : It) (g : TG) (tt : TT) (te : TE) (vs : List Nat) (σ : L2.St) (H1 : Hp) (D : Addr) (Qd : Hp → Prop) : Prop := ∃ W : Nat → Nat → Hp → Prop, (∃ m, W 0 m (upd H1 D (.lst []))) ∧ ∀ i m H, W i m H →
  (J.stop i H ∧ Qd H) ∨ (J.go i H ∧ ∃ Nx : Hp → Prop, (∀ H', Nx H' → ∃ m', m' < m ∧ W (i + 1) m' H') ∧ ∀ x H', J.yld i H x H' → g x (wipe σ vs) H' fun σ2 H2 => wipe σ2 vs = wipe σ vs ∧ tt σ2 H2 fun b H3 =>
    if b = true then te σ2 H3 fun y H4 => ∃ acc, H4 D = some (.lst acc) ∧ acc.length < sizeLine ∧ Nx (upd H4 D (.lst (acc ++ [y]))) else Nx H3)
section
variable {σ : L2.St} {H : Hp} {K : PySem.W.Frag} {R : It → Hp → Prop} {p : Addr} {xs ys : List V} {te : TE} {ta : TA}
theorem g_for {wi : TI} {g : TG} {tb : TS} {D : Ends} (h : wi σ H fun J H1 => Loop J g tb D σ H1) : tFor wi g tb D σ H := h
theorem g_lc {wi : TI} {g : TG} {tt : TT} {te : TE} {vs : List Nat} {Q : VK} (h : wi σ H fun J H1 => ∀ D, H1 D = none → LoopC J g tt te vs σ H1 D fun H' => Q (.ref D) H') : tLc wi g tt te vs σ H Q := h
theorem g_iL (h : te σ H fun x H1 => ∃ a, x = .ref a ∧ (∃ xs, SqL K H1 a xs) ∧ R (Itl K a) H1) : iList K te σ H R := h
theorem g_iL1 {Z : Addr → Prop} (z : SqL K H p xs) (h : Z p) : ∃ a, V.ref p = .ref a ∧ (∃ xs, SqL K H a xs) ∧ Z a := ⟨p, rfl, ⟨xs, z⟩, h⟩
theorem g_iT (h : te σ H fun x H1 => ∃ a, x = .ref a ∧ (∃ xs, SqT K H1 a xs) ∧ R (Itt K a) H1) : iTup K te σ H R := h
theorem g_iT1 {Z : Addr → Prop} (z : SqT K H p xs) (h : Z p) : ∃ a, V.ref p = .ref a ∧ (∃ xs, SqT K H a xs) ∧ Z a := ⟨p, rfl, ⟨xs, z⟩, h⟩
theorem g_iS (h : te σ H fun v H1 => ∃ x, v = .str x ∧ R (Its x) H1) : iStr te σ H R := h
theorem g_iS1 {Z : Str → Prop} {a : Str} (h : Z a) : ∃ x, V.str a = .str x ∧ Z x := ⟨a, rfl, h⟩
theorem g_iE (h : ta σ H fun vs H1 => ∃ a xs, vs = [.ref a] ∧ SqL K H1 a xs ∧ R (Ite K a) H1) : iEnum K ta σ H R := h
theorem g_iE1 {Z : Addr → Prop} (z : SqL K H p xs) (h : Z p) : ∃ a xs, [V.ref p] = [.ref a] ∧ SqL K H a xs ∧ Z a := ⟨p, xs, rfl, z, h⟩
theorem g_iR (h : ta σ H fun vs H1 => ∃ j : Int, vs = [.int j] ∧ -(2 ^ 62) ≤ j ∧ j < 2 ^ 62 ∧ R (Itr 0 j.toNat) H1) : iRng1 ta σ H R := h
theorem g_iR1 {j : Int} (z1 : -(2 ^ 62) ≤ j) (z2 : j < 2 ^ 62) {Z : Int → Prop} (h : Z j) : ∃ i : Int, [V.int j] = [.int i] ∧ -(2 ^ 62) ≤ i ∧ i < 2 ^ 62 ∧ Z i := ⟨j, rfl, z1, z2, h⟩
theorem g_while {c : TT} {tb : TS} {D : Ends} (h : tWhile c tb D σ H) : tWhile c tb D σ H := h
/-- the forms of loops: an invariant by the turn -/
theorem lp_it {J : It} {n : Nat} {G : Hp → Prop} {Y : Nat → Hp → V → Hp → Prop} (w : Walk J n G Y) {g : TG} {tb : TS} {nx : L2.St → Hp → Prop} {rt : VK} {bk ct : L2.St → Hp → Prop} (Pv : Nat → L2.St → Hp → Prop) (h0 : Pv 0 σ H) (hG : ∀ i σ H, i ≤ n → Pv i σ H → G H)
    (hs : ∀ i x σ H H', i < n → Pv i σ H → Y i H x H' → g x σ H' fun σ2 H2 => tb ⟨Pv (i + 1), rt, nx, Pv (i + 1)⟩ σ2 H2) (hd : ∀ σ H, Pv n σ H → nx σ H) : Loop J g tb ⟨nx, rt, bk, ct⟩ σ H := for_it w Pv h0 hG hs hd
theorem lc_by {J : It} {n : Nat} {G : Hp → Prop} {Y : Nat → Hp → V → Hp → Prop} (w : Walk J n G Y) {g : TG} {tt : TT} {te : TE} {vs : List Nat} {D : Addr} {Qd : Hp → Prop} (Pv : Nat → Hp → Prop) (h0 : Pv 0 (upd H D (.lst []))) (hG : ∀ i H, i ≤ n → Pv i H → G H)
    (hs : ∀ i x H H', i < n → Pv i H → Y i H x H' → g x (wipe σ vs) H' fun σ2 H2 => wipe σ2 vs = wipe σ vs ∧ tt σ2 H2 fun b H3 =>
      if b = true then te σ2 H3 fun y H4 => ∃ acc, H4 D = some (.lst acc) ∧ acc.length < sizeLine ∧ Pv (i + 1) (upd H4 D (.lst (acc ++ [y]))) else Pv (i + 1) H3) (hd : ∀ H, Pv n H → Qd H) : LoopC J g tt te vs σ H D Qd := lc_it w Pv h0 hG hs hd
theorem g_yes {QB : Bool → Hp → Prop} (h : QB true H) : tYes σ H QB := h
theorem g_sl {r : V → Option Int → Option Int → Hp → VK → Prop} {te : TE} {tl th : TO} {Q : VK} (h : te σ H fun x H1 => tl σ H1 fun l H2 => th σ H2 fun u H3 => r x l u H3 Q) : tSl r te tl th σ H Q := h
theorem g_noP {QO : Option Int → Hp → Prop} (h : QO none H) : tNoPart σ H QO := h
theorem g_part {QO : Option Int → Hp → Prop} {t : TE} (h : t σ H fun x H1 => ∃ i, x = .int i ∧ QO (some i) H1) : tPart t σ H QO := h
theorem g_int1 {i : Int} {Z : Int → Prop} (h : Z i) : ∃ j, V.int i = .int j ∧ Z j := ⟨i, rfl, h⟩
theorem g_slL {lo hi : Option Int} {Q : VK} (z : SqL K H p xs) (h : ∀ l, H l = none → Q (.ref l) (upd H l (.lst (cutV xs lo hi)))) : dSl K (.ref p) lo hi H Q := ⟨xs, z, h⟩
theorem g_slS {lo hi : Option Int} {Q : VK} {a : Str} (z : a.length ≤ sizeLine) (h : Q (.str (cutS a lo hi)) H) : dSl K (.str a) lo hi H Q := ⟨z, h⟩
theorem g_listL {Q : VK} (z : SqL K H p xs ∨ SqT K H p xs) (h : ∀ l, H l = none → Q (.ref l) (upd H l (.lst xs))) : dList K [.ref p] H Q := ⟨xs, z, h⟩
theorem g_addL {q : Addr} {Q : VK} (z1 : H p = some (.lst xs)) (z2 : H q = some (.lst ys)) (z3 : xs.length + ys.length ≤ sizeLine) (h : ∀ l, H l = none → Q (.ref l) (upd H l (.lst (xs ++ ys)))) : dAdd (.ref p) (.ref q) H Q := ⟨xs, ys, z1, z2, z3, h⟩
theorem g_inL {x : V} {Q : VK} (z1 : SqL K H p xs ∨ SqT K H p xs) (z2 : flatV x = true) (z3 : xs.all flatV = true) (h : Q (.bl (inV x xs)) H) : dIn K x (.ref p) H Q := ⟨xs, z1, z2, z3, h⟩
theorem g_ninL {x : V} {Q : VK} (z1 : SqL K H p xs ∨ SqT K H p xs) (z2 : flatV x = true) (z3 : xs.all flatV = true) (h : Q (.bl (!inV x xs)) H) : dNotIn K x (.ref p) H Q := ⟨xs, z1, z2, z3, h⟩
theorem g_inS {c : Nat} {z : Str} {Q : VK} (h : Q (.bl (decide (c ∈ z.cps.toList))) H) : dIn K (.str ⟨#[c]⟩) (.str z) H Q := ⟨c, rfl, h⟩
theorem g_ninS {c : Nat} {z : Str} {Q : VK} (h : Q (.bl (!decide (c ∈ z.cps.toList))) H) : dNotIn K (.str ⟨#[c]⟩) (.str z) H Q := ⟨c, rfl, h⟩
theorem g_bm {T : String} {r : V → List V → Hp → VK → Prop} {to : TE} {t : TA} {Q : VK} (h : to σ H fun x H1 => tyV K T x H1 ∧ t σ H1 fun xs H2 => r x xs H2 Q) : tBM K T r to t σ H Q := h
theorem g_bm0 {T : String} {r : V → List V → Hp → VK → Prop} {to : TE} {Q : VK} (h : to σ H fun x H1 => tyV K T x H1 ∧ r x [] H1 Q) : tBM0 K T r to σ H Q := h
theorem g_app {v : V} {Q : VK} (z1 : H p = some (.lst xs)) (z2 : xs.length < sizeLine) (h : Q .non (upd H p (.lst (xs ++ [v])))) : rAppend (.ref p) [v] H Q := ⟨p, xs, v, rfl, rfl, z1, z2, h⟩
theorem g_fld {ta : TE} {f : Str} {Q : VK} (h : ta σ H fun x H1 => ∃ a C dx fs v, x = .ref a ∧ H1 a = some (.ins C dx fs) ∧ Cls K C ∧ NoAttr K C f ∧ fs.lookup f = some v ∧ Q v H1) : tFld K ta f σ H Q := h
theorem g_sfld {ta tv : TE} {f : Str} {nx : L2.St → Hp → Prop} {rt : VK} {bk ct : L2.St → Hp → Prop} (h : tv σ H fun y H1 => ta σ H1 fun x H2 => ∃ a C dx fs, x = .ref a ∧ H2 a = some (.ins C dx fs) ∧ Cls K C ∧ NoAttr K C f ∧ fs.length < 1000 ∧ nx σ (upd H2 a (.ins C dx (putF f y fs)))) :
    sFld K ta tv f ⟨nx, rt, bk, ct⟩ σ H := h
theorem tyL {xs : List V} (z : SqL K H p xs) : tyV K "list" (.ref p) H := .inl ⟨rfl, xs, z⟩
theorem tyS {a : Str} : tyV K "str" (.str a) H := rfl
theorem g_tyL {B : Prop} (z : SqL K H p xs) (h : B) : tyV K "list" (.ref p) H ∧ B := ⟨tyL z, h⟩
theorem g_tyS {B : Prop} {a : Str} (h : B) : tyV K "str" (.str a) H ∧ B := ⟨rfl, h⟩
theorem tru_b {b : Bool} {Z : Bool → Prop} (h : Z b) : ∃ k, TruV K (.bl b) H k ∧ Z k := ⟨b, rfl, h⟩
theorem tru_i {i : Int} {Z : Bool → Prop} (h : Z (i != 0)) : ∃ k, TruV K (.int i) H k ∧ Z k := ⟨_, rfl, h⟩
theorem tru_n {Z : Bool → Prop} (h : Z false) : ∃ k, TruV K .non H k ∧ Z k := ⟨_, rfl, h⟩
theorem tru_l {Z : Bool → Prop} (z : SqL K H p xs) (h : Z (!xs.isEmpty)) : ∃ k, TruV K (.ref p) H k ∧ Z k := ⟨_, .inl ⟨xs, z, rfl⟩, h⟩
theorem tru_t {Z : Bool → Prop} (z : SqT K H p xs) (h : Z (!xs.isEmpty)) : ∃ k, TruV K (.ref p) H k ∧ Z k := ⟨_, .inr (.inl ⟨xs, z, rfl⟩), h⟩
end
/-! ### heaps that keep what they had, but at some places -/
def Sx (W : List Addr) (H H' : Hp) : Prop := ∀ a o, a ∉ W → H a = some o → H' a = some o
theorem Sx.refl {W : List Addr} (H : Hp) : Sx W H H := fun _ _ _ h => h
theorem Sx.trans {W : List Addr} {H H1 H2 : Hp} (a : Sx W H H1) (b : Sx W H1 H2) : Sx W H H2 := fun c o h e => b c o h (a c o h e)
theorem Sx.of {W : List Addr} {H H' : Hp} (h : Same H H') : Sx W H H' := fun a o _ e => h a o e
theorem Sx.same {H H' : Hp} (h : Sx [] H H') : Same H H' := fun a o e => h a o (by simp) e
theorem Sx.new {W : List Addr} {H H' : Hp} {p : Addr} {o : HO} (h : Sx W H H') (n : H' p = none) : Sx W H (upd H' p o) := fun a u w e => by
  have q := h a u w e
  rw [upd_ne (ne_of_none q n)]; exact q
theorem Sx.mut {W : List Addr} {H H' : Hp} {p : Addr} {o : HO} (h : Sx W H H') (n : H p = none) : Sx W H (upd H' p o) := fun a u w e => by
  rw [upd_ne (ne_of_none e n)]; exact h a u w e
theorem Sx.put {W : List Addr} {H H' : Hp} {p : Addr} {o : HO} (h : Sx W H H') (n : p ∈ W) : Sx W H (upd H' p o) := fun a u w e => by
  rw [upd_ne (show a ≠ p from fun z => w (by rw [z]; exact n))]; exact h a u w e
theorem Sx.mono {W W' : List Addr} {H H' : Hp} (h : Sx W H H') (i : ∀ a ∈ W, a ∈ W') : Sx W' H H' := fun a o w e => h a o (fun z => w (i a z)) e
theorem Sx.free {W : List Addr} {H H' : Hp} {p : Addr} (h : Sx W H H') (w : p ∉ W) (n : H' p = none) : H p = none := by
  cases q : H p with
  | none => rfl
  | some o => rw [h p o w q] at n; cases n
theorem Sx.get1 {b a : Addr} {o : HO} {H H' : Hp} (h : Sx [b] H H') (n : a ≠ b) (e : H a = some o) : H' a = some o := h a o (by simpa using n) e
theorem _root_.L2.Same.new {H H' : Hp} {p : Addr} {o : HO} (h : Same H H') (n : H' p = none) : Same H (upd H' p o) := fun a u e => by
  have q := h a u e
  rw [upd_ne (ne_of_none q n)]; exact q
theorem _root_.L2.Same.mut {H H' : Hp} {p : Addr} {o : HO} (h : Same H H') (n : H p = none) : Same H (upd H' p o) := fun a u e => by
  rw [upd_ne (ne_of_none e n)]; exact h a u e
/-! ### the same rules, the written part by its letter -/
section
variable {X : Cx} (K : PySem.W.Frag) {e o : Expr} {es : List Expr} {te ta tv : TE} {t : TA} {tg : Expr} {pos pos' p tpos apos cpos : Pos}
theorem q_list (he : PE X e te) (h : X.K = K := by rfl) : PI X tg e (iList K te) := h ▸ pi_list he
theorem q_tupI (he : PE X e te) (h : X.K = K := by rfl) : PI X tg e (iTup K te) := h ▸ pi_tup he
theorem q_enum {elts : List Expr} {kk : Nat} (hm : X.mg "enumerate" = none) (ha : PA X [e] t) (hg : Gl X "enumerate" := by rfl) (hs : starEach [e] X.env = [(false, eval e X.env)] := by rfl) (h : X.K = K := by rfl) :
    PI X (.Tuple elts kk tpos) (.Call (.Name "enumerate" p) [e] [] pos) (iEnum K t) := h ▸ pi_enum hg hm ha hs
theorem q_gtup (n : Nat) {k : Nat} {ts : TGs} (h : PGs X es ts) (hc : X.calm = true := by rfl) (hn : (assignEach es X.env).length = n := by rfl) (hst : (assignEach es X.env).findIdx? (·.1) = none := by rfl) (hK : X.K = K := by rfl) :
    PG X (.Tuple es k pos) (gTup K n ts) := hK ▸ pg_tup hc h hn hst
theorem q_truth (ha : PE X e ta) (he : ∀ whole, isTrue e X.env whole = (do let v ← whole; standAt e.pos; holding [v] (truthy v)) := by intro _; rfl) (h : X.K = K := by rfl) :
    PT X e (fun σ H Q => ta σ H fun x H' => ∃ k, TruV K x H' k ∧ Q k H') := h ▸ pt_truth ha he
theorem q_orT {b : Expr} {rest : List Expr} {tb : TE} (ha : PE X e ta) (hb : PE X (.BoolOp .Or (b :: rest) pos) tb) (h : X.K = K := by rfl) : PE X (.BoolOp .Or (e :: b :: rest) pos) (tOrT K ta tb) := h ▸ pe_orT ha hb
theorem q_andT {b : Expr} {rest : List Expr} {tb : TE} (ha : PE X e ta) (hb : PE X (.BoolOp .And (b :: rest) pos) tb) (h : X.K = K := by rfl) : PE X (.BoolOp .And (e :: b :: rest) pos) (tAndT K ta tb) := h ▸ pe_andT ha hb
theorem q_notT (ha : PE X e ta) (h : X.K = K := by rfl) : PE X (.UnaryOp .Not e pos) (tNotT K ta) := h ▸ pe_notT ha
theorem q_fld {f : Str} (ha : PE X o ta) (hb : attributeBase o f X.env (eval o X.env) = eval o X.env := by rfl) (h : X.K = K := by rfl) : PE X (.Attribute o f pos) (tFld K ta f) := h ▸ pe_fld ha hb
theorem q_sfld {f : Str} (ha : PE X o ta) (hv : PE X e tv) (hs : swapsWith e (some (.Attribute o f pos')) pos.line X.env = pure false := by rfl) (h : X.K = K := by rfl) : PS X (.Assign [.Attribute o f pos'] e pos) (sFld K ta tv f) := h ▸ ps_fld ha hv hs
section
variable {name : Str} {T id : String} {r : V → List V → Hp → VK → Prop} {to : TE}
theorem q_bm0 (pa : PlainAttrs T) (slot : Slot T name id) (hty : typeOf (.builtin id) = pure (.type "method_descriptor")) (hm : MtR X id r) (ho : PE X o to)
    (hbase : attributeBase o name X.env (eval o X.env) = eval o X.env := by rfl) (hline : (apos.endLine == cpos.line) = true := by rfl) (h : X.K = K := by rfl) : PE X (.Call (.Attribute o name apos) [] [] cpos) (tBM0 K T r to) := h ▸ pe_bm0 pa slot hty hm ho hbase hline
theorem q_bm (pa : PlainAttrs T) (slot : Slot T name id) (hty : typeOf (.builtin id) = pure (.type "method_descriptor")) (hm : MtR X id r) (ho : PE X o to) (ha : PA X (e :: es) t)
    (hbase : attributeBase o name X.env (eval o X.env) = eval o X.env := by rfl)
    (hfew : ((backTo cpos (starEach (e :: es) X.env)).all (fun x => !x.1) && (backToKw cpos (keywordEach [] X.env)).all (fun x => x.1.isSome)
      && decide ((e :: es).length + ([] : List Keyword).length + (if ([] : List Keyword).isEmpty then 0 else 1) < 30)) = true := by rfl)
    (hline : (apos.endLine == cpos.line) = true := by rfl) (hs : starEach (e :: es) X.env = (false, eval e X.env) :: starEach es X.env := by rfl) (hplain : (backTo cpos (starEach es X.env)).any (·.1) = false := by rfl) (h : X.K = K := by rfl) :
    PE X (.Call (.Attribute o name apos) (e :: es) [] cpos) (tBM K T r to t) := h ▸ pe_bm pa slot hty hm ho ha hbase hfew hline hs hplain
end
theorem m_append : MtR X "list.append" rAppend := mt_append
def dJoin (K : PySem.W.Frag) : V → List V → Hp → VK → Prop := fun x xs H Q => ∃ a p, ∃ ys : List Str, x = .str a ∧ xs = [.ref p] ∧ (SqL K H p (ys.map V.str) ∨ SqT K H p (ys.map V.str)) ∧ (ys.map (·.length)).sum + ys.length * a.length ≤ 16777216 ∧ Q (.str (Txt.join a ys)) H
theorem m_join (h : X.K = K := by rfl) : MtR X "str.join" (dJoin K) := h ▸ mt_join
def dWords : V → List V → Hp → VK → Prop := fun x xs H Q => ∃ a, x = .str a ∧ xs = [] ∧ a.length + 2 ≤ sizeLine ∧ ∀ p, H p = none → Q (.ref p) (upd H p (.lst ((Txt.words a).map V.str)))
theorem m_words : MtR X "str.split" dWords := mt_words
def dSplit : V → List V → Hp → VK → Prop := fun x xs H Q => ∃ a b, x = .str a ∧ xs = [.str b] ∧ (b.length == 0) = false ∧ a.length + 2 ≤ sizeLine ∧ ∀ p, H p = none → Q (.ref p) (upd H p (.lst ((Txt.split a b).map V.str)))
theorem m_split : MtR X "str.split" dSplit := mt_split
end
section
variable {K : PySem.W.Frag} {H : Hp} {Q : VK} {a b : Str} {p : Addr} {ys : List Str}
theorem g_join (z1 : SqL K H p (ys.map V.str) ∨ SqT K H p (ys.map V.str)) (z2 : (ys.map (·.length)).sum + ys.length * a.length ≤ 16777216) (h : Q (.str (Txt.join a ys)) H) : dJoin K (.str a) [.ref p] H Q := ⟨a, p, ys, rfl, rfl, z1, z2, h⟩
theorem g_words (z : a.length + 2 ≤ sizeLine) (h : ∀ p, H p = none → Q (.ref p) (upd H p (.lst ((Txt.words a).map V.str)))) : dWords (.str a) [] H Q := ⟨a, rfl, rfl, z, h⟩
theorem g_split (z1 : (b.length == 0) = false) (z : a.length + 2 ≤ sizeLine) (h : ∀ p, H p = none → Q (.ref p) (upd H p (.lst ((Txt.split a b).map V.str)))) : dSplit (.str a) [.str b] H Q := ⟨a, b, rfl, rfl, z1, z, h⟩
theorem g_start {t : TS} {D : Ends} {σ σ' : L2.St} {H : Hp} (e : σ = σ') (h : t D σ' H) : t D σ H := e ▸ h
end
/-- what comes behind, once for all: R is found where it is used -/
theorem g_all {α : Type} {R : α → Prop} {G : Prop} (main : (∀ c, R c) → G) (rest : ∀ c, R c) : G := main rest
theorem g_all2 {α β : Type} {R : α → β → Prop} {G : Prop} (main : (∀ c d, R c d) → G) (rest : ∀ c d, R c d) : G := main rest
theorem g_allW {α : Type} {W R : α → Prop} {G : Prop} (main : (∀ c, W c → R c) → G) (rest : ∀ c, W c → R c) : G := main rest
theorem hp_same {H H' : Hp} {a : Addr} {o : HO} (s : Same H H') (e : H a = some o) : H' a = some o := s a o e
theorem hp_sx {W : List Addr} {H H' : Hp} {a : Addr} {o : HO} (s : Sx W H H') (n : a ∉ W) (e : H a = some o) : H' a = some o := s a o n e
theorem al {n : Nat} {B : Prop} (h : B) (z : Nat.ble n 16777216 = true := by rfl) : n ≤ sizeLine ∧ B := ⟨by rw [sizeLine_eq]; exact Nat.le_of_ble_eq_true z, h⟩
theorem inV_str {t : Str} {xs : List Str} : inV (.str t) (xs.map V.str) = decide (t ∈ xs) := by
  induction xs with
  | nil => rfl
  | cons x r ih =>
    have e : inV (.str t) ((x :: r).map V.str) = (eqV (.str x) (.str t) || inV (.str t) (r.map V.str)) := rfl
    rw [e, ih]
    have e2 : eqV (.str x) (.str t) = decide (t = x) := by
      show (x == t) = decide (t = x)
      by_cases h : x = t
      · subst h; simp
      · rw [decide_eq_false (fun z => h z.symm)]; simpa using h
    rw [e2, Bool.eq_iff_iff]
    simp
theorem inV_int {t : Int} {xs : List Int} : inV (.int t) (xs.map V.int) = decide (t ∈ xs) := by
  induction xs with
  | nil => rfl
  | cons x r ih =>
    have e : inV (.int t) ((x :: r).map V.int) = (eqV (.int x) (.int t) || inV (.int t) (r.map V.int)) := rfl
    rw [e, ih]
    have e2 : eqV (.int x) (.int t) = decide (t = x) := by
      show (x == t) = decide (t = x)
      by_cases h : x = t
      · subst h; simp
      · rw [decide_eq_false (fun z => h z.symm)]; simpa using h
    rw [e2, Bool.eq_iff_iff]
    simp
theorem flat_strs (xs : List Str) : (xs.map V.str).all flatV = true := by simp [flatV]
theorem flat_ints (xs : List Int) : (xs.map V.int).all flatV = true := by simp [flatV]
theorem atI_of {α : Type} {xs : List α} {i : Nat} {v : α} (h : xs[i]? = some v) : atI xs (i : Int) = some v := by
  have hl : i < xs.length := (List.getElem?_eq_some_iff.mp h).1
  unfold atI ixN
  rw [if_pos (Int.natCast_nonneg i), if_pos (by omega)]
  show xs[(i : Int).toNat]? = some v
  rw [Int.toNat_natCast]; exact h
theorem atI_map {α : Type} {xs : List α} {f : α → V} {i : Nat} {v : α} (h : xs[i]? = some v) : atI (xs.map f) (i : Int) = some (f v) := atI_of (by rw [List.getElem?_map, h]; rfl)
theorem sqL_same {K : PySem.W.Frag} {H H' : Hp} {a : Addr} {xs : List V} (h : SqL K H a xs) (e : Same H H') : SqL K H' a xs := Same.seq e h
theorem rd_same {H H' : Hp} {a : Addr} {u : HO} (e : Same H H') (h : Rd H a u) : Rd H' a u := by
  rcases h with h | ⟨o, h⟩
  · exact Or.inl (e a _ h)
  · exact Or.inr ⟨o, e a _ h⟩
theorem sqT_same {K : PySem.W.Frag} {H H' : Hp} {a : Addr} {xs : List V} (h : SqT K H a xs) (e : Same H H') : SqT K H' a xs := by
  rcases h with h | h
  · exact Or.inl (rd_same e h)
  · exact Or.inr h
section
variable {K : PySem.W.Frag} {H : Hp} {Q : VK} {p : Addr}
theorem g_ip {f : Int → Int → Int} {i j : Int} (h : Q (.int (f i j)) H) : ipI f (.int i) (.int j) H Q := ⟨i, j, rfl, rfl, h⟩
theorem g_rU {g : Int → V} {i : Int} (h : Q (g i) H) : rU g (.int i) H Q := ⟨i, rfl, h⟩
theorem g_inLs {t : Str} {ns : List Str} (z1 : SqL K H p (ns.map V.str) ∨ SqT K H p (ns.map V.str)) (h : Q (.bl (decide (t ∈ ns))) H) : dIn K (.str t) (.ref p) H Q := ⟨_, z1, rfl, flat_strs ns, by rw [inV_str]; exact h⟩
theorem g_ninLs {t : Str} {ns : List Str} (z1 : SqL K H p (ns.map V.str) ∨ SqT K H p (ns.map V.str)) (h : Q (.bl (!decide (t ∈ ns))) H) : dNotIn K (.str t) (.ref p) H Q := ⟨_, z1, rfl, flat_strs ns, by rw [inV_str]; exact h⟩
end
section
variable {K : PySem.W.Frag} {H : Hp} {p C dx : Addr} {fs : List (Str × V)} {f : Str} {v : V}
theorem g_gf {Z : V → Prop} (z1 : H p = some (.ins C dx fs)) (z2 : Cls K C) (z3 : NoAttr K C f) (z4 : fs.lookup f = some v) (h : Z v) : ∃ a C dx fs v, V.ref p = .ref a ∧ H a = some (.ins C dx fs) ∧ Cls K C ∧ NoAttr K C f ∧ fs.lookup f = some v ∧ Z v := ⟨p, C, dx, fs, v, rfl, z1, z2, z3, z4, h⟩
theorem g_sf {Z : Hp → Prop} (z1 : H p = some (.ins C dx fs)) (z2 : Cls K C) (z3 : NoAttr K C f) (z4 : fs.length < 1000) (h : Z (upd H p (.ins C dx (putF f v fs)))) :
    ∃ a C dx fs, V.ref p = .ref a ∧ H a = some (.ins C dx fs) ∧ Cls K C ∧ NoAttr K C f ∧ fs.length < 1000 ∧ Z (upd H a (.ins C dx (putF f v fs))) := ⟨p, C, dx, fs, rfl, z1, z2, z3, z4, h⟩
end
/-! ### data: lists of texts, of ints compared -/
section
variable {K : PySem.W.Frag} {H : Hp} {Q : VK} {p q : Addr}
theorem dp_strs (xs : List Str) : DpAll K H (xs.map V.str) (xs.map PyData.str) := by
  induction xs with
  | nil => exact .nil
  | cons x r ih => exact .cons (.str x) ih
theorem dp_ints (xs : List Int) : DpAll K H (xs.map V.int) (xs.map PyData.int) := by
  induction xs with
  | nil => exact .nil
  | cons x r ih => exact .cons (.int x) ih
theorem lay_all {ds : List PyData} (h : ∀ d ∈ ds, d.canLay0 = true ∧ d.depth ≤ 60) : PyData.canLayAll0 ds = true ∧ PyData.depthAll ds ≤ 60 := by
  induction ds with
  | nil => exact ⟨rfl, by simp [PyData.depthAll]⟩
  | cons d r ih =>
    obtain ⟨h1, h2⟩ := h d (List.mem_cons_self ..)
    obtain ⟨h3, h4⟩ := ih fun e he => h e (List.mem_cons_of_mem _ he)
    exact ⟨by simp [PyData.canLayAll0, h1, h3], by simp only [PyData.depthAll]; omega⟩
theorem shaped_list {ds : List PyData} (h : ∀ d ∈ ds, d.canLay0 = true ∧ d.depth ≤ 60) : SeqAt.shaped (.list ds) = true := by
  obtain ⟨h1, h2⟩ := lay_all h
  simp only [SeqAt.shaped, PyData.canLay0, PyData.depth, h1, Bool.true_and]
  exact decide_eq_true (by omega)
theorem shaped_tup {ds : List PyData} (h : ∀ d ∈ ds, d.canLay0 = true ∧ d.depth ≤ 60) : SeqAt.shaped (.tuple ds) = true := by
  obtain ⟨h1, h2⟩ := lay_all h
  simp only [SeqAt.shaped, PyData.canLay0, PyData.depth, h1, Bool.true_and]
  exact decide_eq_true (by omega)
/-- texts of signs that are signs -/
def Sok (xs : List Str) : Prop := ∀ x ∈ xs, PyData.strOk x = true
theorem shaped_strs {xs : List Str} (h : Sok xs) : SeqAt.shaped (.list (xs.map PyData.str)) = true := shaped_list fun d hd => by
  obtain ⟨x, hx, rfl⟩ := List.mem_map.mp hd
  exact ⟨by simp only [PyData.canLay0]; exact h x hx, by simp [PyData.depth]⟩
theorem sok_asc {x : Str} (h : ∀ c ∈ x.cps.toList, c ≤ 127) : PyData.strOk x = true := by
  unfold PyData.strOk
  rw [← Array.all_toList, List.all_eq_true]
  intro c hc
  have := h c hc
  exact decide_eq_true (by omega)
theorem shaped_ints (xs : List Int) : SeqAt.shaped (.list (xs.map PyData.int)) = true := shaped_list fun d hd => by
  obtain ⟨x, _, rfl⟩ := List.mem_map.mp hd
  exact ⟨by simp only [PyData.canLay0], by simp [PyData.depth]⟩
theorem eqv_strs : ∀ (xs ys : List Str), PyData.eqvAll (xs.map PyData.str) (ys.map PyData.str) = decide (xs = ys)
  | [], [] => rfl
  | [], y :: ys => by simp [PyData.eqvAll]
  | x :: xs, [] => by simp [PyData.eqvAll]
  | x :: xs, y :: ys => by
    simp only [List.map_cons, PyData.eqvAll, PyData.eqv, eqv_strs xs ys]
    rw [Bool.eq_iff_iff]
    simp
theorem eqv_ints : ∀ (xs ys : List Int), PyData.eqvAll (xs.map PyData.int) (ys.map PyData.int) = decide (xs = ys)
  | [], [] => rfl
  | [], y :: ys => by simp [PyData.eqvAll]
  | x :: xs, [] => by simp [PyData.eqvAll]
  | x :: xs, y :: ys => by
    simp only [List.map_cons, PyData.eqvAll, PyData.eqv, eqv_ints xs ys]
    rw [Bool.eq_iff_iff]
    simp
theorem g_neLs {xs ys : List Str} (s1 : Sok xs) (s2 : Sok ys) (z1 : SqL K H p (xs.map V.str)) (z2 : SqL K H q (ys.map V.str)) (h : Q (.bl (!decide (xs = ys))) H) : dNe K (.ref p) (.ref q) H Q :=
  .inr ⟨_, _, .lst z1 (dp_strs xs), .lst z2 (dp_strs ys), shaped_strs s1, shaped_strs s2, by simp only [PyData.eqv, eqv_strs]; exact h⟩
theorem g_eqLs {xs ys : List Str} (s1 : Sok xs) (s2 : Sok ys) (z1 : SqL K H p (xs.map V.str)) (z2 : SqL K H q (ys.map V.str)) (h : Q (.bl (decide (xs = ys))) H) : dEq K (.ref p) (.ref q) H Q :=
  .inr ⟨_, _, .lst z1 (dp_strs xs), .lst z2 (dp_strs ys), shaped_strs s1, shaped_strs s2, by simp only [PyData.eqv, eqv_strs]; exact h⟩
theorem g_neLi {xs ys : List Int} (z1 : SqL K H p (xs.map V.int)) (z2 : SqL K H q (ys.map V.int)) (h : Q (.bl (!decide (xs = ys))) H) : dNe K (.ref p) (.ref q) H Q :=
  .inr ⟨_, _, .lst z1 (dp_ints xs), .lst z2 (dp_ints ys), shaped_ints xs, shaped_ints ys, by simp only [PyData.eqv, eqv_ints]; exact h⟩
end
theorem iteNT {A B : Prop} (h : B) : if (!true) = true then A else B := iteF h
theorem iteNF {A B : Prop} (h : A) : if (!false) = true then A else B := iteT h
theorem g_allW2 {α β : Type} {W R : α → β → Prop} {G : Prop} (main : (∀ c d, W c d → R c d) → G) (rest : ∀ c d, W c d → R c d) : G := main rest
theorem log2_of {n k : Nat} (h0 : 0 < k) (h : n < 2 ^ k) : n.log2 < k := by
  by_cases z : n = 0
  · subst z; simpa using h0
  · exact (Nat.log2_lt z).mpr h
theorem log2_1000 {d : Int} (h0 : 0 ≤ d) (h1 : d < 2 ^ 120) : d.natAbs.log2 < 1920 := Nat.lt_trans (log2_of (k := 120) (by decide) (by omega)) (by decide)
end NL
namespace NL
open PySem L2
/-! ### own exceptions of one field -/
/-- what __init__(self, f): self.f = f does to the exception that is being made -/
def sp_xi (C : Addr) (f : Str) : Sp := fun vs H Q _ => ∃ (a : Addr) (v : V), vs = [.ref a, v] ∧ H a = some (exo a C none) ∧
  ∀ dx, H dx = none → dx ≠ a → Q .non (upd (upd H dx (exd dx [(f, v)])) a (exo a C (some dx)))
/-- what is known of an own exception class x with the field f -/
structure XC (P : Program) (w : World) (K : PySem.W.Frag) (mg : Str → Option Value) (base : Heap) (k : Nat) (x f : Str) (C : Addr) : Prop where
  g : mg x = some (.ref C)
  o : OexC K C
  no : PySem.W.findIn K (.ref C) f = some none
  fn : ∃ (fI : Addr) (fd : FuncData) (ps : List Str), PySem.W.findIn K (.ref C) "__init__" = some (some (.ref fI)) ∧ PySem.W.typeIn K (.ref fI) = some (.type "function") ∧ Binds K fd ps [] ∧ FnOk P w K mg base (L2.CX P w) k fI fd ps (sp_xi C f)
theorem del_upd {H : Hp} {a d : Addr} {o1 o2 o3 o4 : HO} (ha : H a = none) (hd : d ≠ a) : upd (del (upd (upd (upd H a o1) d o2) a o3) a) d o4 = upd H d o4 := by
  funext b
  by_cases e : b = d
  · subst e; rw [upd_same, upd_same]
  · rw [upd_ne e, upd_ne e]
    by_cases e2 : b = a
    · subst e2; rw [del_same, ha]
    · rw [del_ne e2, upd_ne e2, upd_ne e, upd_ne e2]
section
variable {X : Cx} {k : Nat} {x f : Str} {C : Addr} {e : Expr} {es : List Expr} {ta : TA} {p pos pos2 : Pos}
def tMkX (C : Addr) (f : Str) (ta : TA) : L2.St → Hp → XK → Prop := fun σ H Q => ta σ H fun vs H1 => ∃ v, vs = [v] ∧ ∀ d, H1 d = none → Q (.ref C) (some d) (upd H1 d (.xd [(f, v)]))
theorem imp_of {X : Cx} {e : Expr} {t t' : L2.St → Hp → XK → Prop} (h : PMk X e t) (i : ∀ σ H Q, t' σ H Q → t σ H Q) : PMk X e t' := fun pins s σ H Q I q => h pins s σ H Q I (i σ H Q q)
theorem pa_imp {X : Cx} {es : List Expr} {t t' : TA} (h : PA X es t) (i : ∀ σ H Q, t' σ H Q → t σ H Q) : PA X es t' := ⟨fun pos pins s σ H Q I q => h.run pos pins s σ H Q I (i σ H Q q)⟩
/-- arguments: what is wanted of them may be weakened -/
def Mono (t : TA) : Prop := ∀ (σ : L2.St) (H : Hp) (Q Q' : List V → Hp → Prop), (∀ vs H', Q vs H' → Q' vs H') → t σ H Q → t σ H Q'
theorem pmk_x (T : XC X.prog X.w X.K X.mg X.base k x f C) (hr : Room (k + 1) X.A) (ha : PA X (e :: es) ta) (hg : Gl X x := by rfl) (hdb : (x == ("__debug__" : Str)) = false := by decide)
    (he : starEach (e :: es) X.env = (false, eval e X.env) :: starEach es X.env := by rfl) (hpl : (backTo pos (starEach es X.env)).any (·.1) = false := by rfl) :
    PMk X (.Call (.Name x p) (e :: es) [] pos) (tMkX C f ta) := by
  obtain ⟨fI, fd, ps, iC, tI, hb, F1⟩ := T.fn
  have ha' : PA X (e :: es) (fun σ H Q => ta σ H fun vs H1 => Q vs H1) := ha
  intro pins s σ H Q I h
  have base := pmk_oex (dvs := []) (ds := []) (p := p) T.o iC tI F1 hr hb .nil passL hg T.g (ta := fun σ H Q => ∃ (R : List V → Hp → Prop), ta σ H R ∧ ∀ vs H', R vs H' → Q vs H')
    (⟨fun pos pins s σ H Q I q => by
      obtain ⟨R, h1, h2⟩ := q
      exact thn (ha.run pos pins s σ H R I h1) fun us s1 ⟨vs, H1, I1, r, q1⟩ => ⟨vs, H1, I1, r, h2 vs H1 q1⟩⟩) hdb he hpl
  refine base pins s σ H Q I ⟨_, h, fun vs H1 hv => ?_⟩
  obtain ⟨v, rfl, hv⟩ := hv
  refine ⟨by show 1 ≤ 1000; decide, fun a ha1 => ⟨a, v, rfl, upd_same, fun dx hdx hne => ⟨rfl, dx, [(f, v)], upd_same, ?_, ?_, ?_⟩⟩⟩
  · rw [upd_ne hne, upd_same]
  · have := hdx
    rw [upd_ne hne] at this
    exact this
  · rw [del_upd ha1 hne]
    rw [upd_ne hne] at hdx
    exact hv dx hdx
/-- raise x(e) -/
def tRaiseX (C : Addr) (f : Str) (W : WX) (ta : TA) : TS := fun _ σ H => ta σ H fun vs H1 => ∃ v, vs = [v] ∧ ∀ d, H1 d = none → W (.ref C) (some d) σ (upd H1 d (.xd [(f, v)]))
theorem q_raise {W : WX} (T : XC X.prog X.w X.K X.mg X.base k x f C) (tk : Takes X W) (hr : Room (k + 1) X.A) (ha : PA X (e :: es) ta) (hc : X.calm = true := by rfl) (hg : Gl X x := by rfl) (hdb : (x == ("__debug__" : Str)) = false := by decide)
    (he : starEach (e :: es) X.env = (false, eval e X.env) :: starEach es X.env := by rfl) (hpl : (backTo pos (starEach es X.env)).any (·.1) = false := by rfl) :
    PS X (.Raise (some (.Call (.Name x p) (e :: es) [] pos)) none pos2) (tRaiseX C f W ta) := ps_raise hc tk (pmk_x T hr ha hg hdb he hpl)
theorem g_raise {C : Addr} {f : Str} {W : WX} {ta : TA} {D : Ends} {σ : L2.St} {H : Hp} (h : ta σ H fun vs H1 => ∃ v, vs = [v] ∧ ∀ d, H1 d = none → W (.ref C) (some d) σ (upd H1 d (.xd [(f, v)]))) : tRaiseX C f W ta D σ H := h
theorem g_raised {v : V} {Z : V → Prop} (h : Z v) : ∃ u, [v] = [u] ∧ Z u := ⟨v, rfl, h⟩
end
/-! ### in an except suite: isinstance of the exception that is held, its field -/
def dIsX (K : PySem.W.Frag) (a : Addr) (cls : Value) (d : Option Addr) : List V → Hp → VK → Prop := fun xs H Q => ∃ (D dd : Addr) (fs : List (Str × V)) (c : V) (cv : Value) (b : Bool),
  xs = [.ref a, c] ∧ cls = .ref D ∧ d = some dd ∧ H dd = some (.xd fs) ∧ ExcC K D ∧ ClsV c cv ∧ PySem.W.kitOne K (.ref D) cv = some b ∧ Q (.bl b) H
theorem cl_isX0 {X : Cx} {a : Addr} {oe : Obj} {cls : Value} {d : Option Addr} {pn : List (Addr × Obj)} (hz : Zc cls d oe) (hf : ∃ vs, oe.data = .fields vs) : CallR (X.suite a ((a, oe) :: pn)) (.builtin "isinstance") (dIsX X.K a cls d) := by
  intro pins s σ H xs us Q I r h
  obtain ⟨D, dd, fs, c, cv, b, rfl, rfl, rfl, hx, C, kc, e, q⟩ := h
  obtain ⟨u1, u2, rfl, r1, r2⟩ := Vals.two r
  obtain rfl : u1 = Value.ref a := r1
  have e2 := kc.eq r2
  subst e2
  obtain ⟨hget, _⟩ := I.pin (a, oe) (List.mem_append.mpr (.inl List.mem_cons_self))
  obtain ⟨vs, hv⟩ := hf
  obtain ⟨mA, ⟨o, es, ep, ho, _⟩, _⟩ := I.hok dd _ hx
  have J : PySem.W.InstAt s.heap a oe D (some o) := by
    obtain ⟨oc, od, oda, osl⟩ := oe
    obtain ⟨h1, h2⟩ := hz
    dsimp only at h1 h2 hv
    subst h1 h2 hv
    exact ⟨hget, rfl, rfl, ho⟩
  have hcl : (PySem.W.clsIn X.K D).isSome = true := by
    obtain ⟨cd, hc, _⟩ := PySem.W.any_some C.hd
    rw [hc]; rfl
  exact PySem.W.kia_one (PySem.W.kitx_exc hcl C.hg C.hk C.hs C.ha C.hn C.ht C.hm) I.kIn J e (fun z => nomatch z) fun tk => ⟨.bl b, H, I.kept (t' := tk) fun _ _ z => z, rfl, q⟩
theorem cl_isX {X : Cx} (K : PySem.W.Frag) {a : Addr} {oe : Obj} {cls : Value} {d : Option Addr} {pn : List (Addr × Obj)} (hz : Zc cls d oe) (hf : ∃ vs, oe.data = .fields vs) (h : X.K = K := by rfl) :
    CallR (X.suite a ((a, oe) :: pn)) (.builtin "isinstance") (dIsX K a cls d) := h ▸ cl_isX0 hz hf
def tXfD (K : PySem.W.Frag) (a : Addr) (cls : Value) (d : Option Addr) (f : Str) (te : TE) : TE := fun σ H Q => te σ H fun x H1 => x = .ref a ∧ ∃ (C dd : Addr) (fs : List (Str × V)) (v : V), cls = .ref C ∧ XfC K C ∧ PySem.W.findIn K (.ref C) f = some none ∧ d = some dd ∧ H1 dd = some (.xd fs) ∧ fs.lookup f = some v ∧ Q v H1
theorem pe_xfD0 {X : Cx} {a : Addr} {oe : Obj} {cls : Value} {d : Option Addr} {pn : List (Addr × Obj)} {e : Expr} {te : TE} {pos : Pos} {n : Str}
    (hz : Zc cls d oe) (hf : ∃ vs, oe.data = .fields vs) (he : PE (X.suite a ((a, oe) :: pn)) e te) (hb : attributeBase e n X.env (eval e X.env) = eval e X.env := by rfl) :
    PE (X.suite a ((a, oe) :: pn)) (.Attribute e n pos) (tXfD X.K a cls d n te) := by
  refine ⟨fun pins s σ H Q I h => ?_⟩
  have base : ∀ C, XfC X.K C → PySem.W.findIn X.K (.ref C) n = some none → PE (X.suite a ((a, oe) :: pn)) (.Attribute e n pos) (tXf a cls d C n te) := fun C T hno => pe_xf T hno hz hf he hb
  refine attr_of hb (thn (he.run pins s σ H _ I h) fun u s1 hh => ?_)
  obtain ⟨x, H1, I1, rx, ex, C, dd, fs, v, ec, T, hno, ed, ea, l, q⟩ := hh
  subst ex
  obtain rfl : u = Value.ref a := rx
  subst ec
  subst ed
  obtain ⟨ha, _⟩ := I1.pin (a, oe) (List.mem_append_left _ List.mem_cons_self)
  obtain ⟨vs, hd⟩ := hf
  obtain ⟨mA, hns, hr⟩ := I1.hok dd _ ea
  obtain ⟨od, ho, hl⟩ := lookIn_ns hns
  obtain ⟨u, hu, ru⟩ := RelO.some_of (v := v) (o := mA n) (by rw [← l]; exact hr n)
  have J : PySem.W.InstAt s1.heap a oe C (some od) := ⟨ha, hz.1, by unfold PySem.W.notCls; rw [hd] <;> rfl, by rw [hz.2]; exact ho⟩
  exact HandSPX.exc_get I1.kIn J T.ga T.gg T.exC (PySem.W.findObj_own T.hdC hno rfl (by rw [hl, hu])) (handed_of ru) ⟨v, H1, I1.tok _, ru, q⟩
theorem pe_xfD {X : Cx} (K : PySem.W.Frag) {a : Addr} {oe : Obj} {cls : Value} {d : Option Addr} {pn : List (Addr × Obj)} {e : Expr} {te : TE} {pos : Pos} {n : Str}
    (hz : Zc cls d oe) (hf : ∃ vs, oe.data = .fields vs) (he : PE (X.suite a ((a, oe) :: pn)) e te) (hb : attributeBase e n X.env (eval e X.env) = eval e X.env := by rfl) (h : X.K = K := by rfl) :
    PE (X.suite a ((a, oe) :: pn)) (.Attribute e n pos) (tXfD K a cls d n te) := h ▸ pe_xfD0 hz hf he hb
/-! ### an own class made, its methods called; what is raised goes to the taker -/
structure MkC (P : Program) (w : World) (K : PySem.W.Frag) (mg : Str → Option Value) (base : Heap) (k : Nat) (x : Str) (C : Addr) (ps : List Str) (sp : Sp) : Prop where
  g : mg x = some (.ref C)
  fn : ∃ (f : Addr) (fd : FuncData), Mk K C f ∧ Binds K fd ps [] ∧ FnOk P w K mg base (L2.CX P w) k f fd ps sp
structure MtC (P : Program) (w : World) (K : PySem.W.Frag) (mg : Str → Option Value) (base : Heap) (k : Nat) (C : Addr) (m : Str) (ps : List Str) (sp : Sp) : Prop where
  c : Cls K C
  fn : ∃ (f : Addr) (fd : FuncData), Meth K C m f ∧ Binds K fd ps [] ∧ FnOk P w K mg base (L2.CX P w) k f fd ps sp
section
variable {X : Cx} {k : Nat} {x m : Str} {C : Addr} {e o : Expr} {es : List Expr} {t : TA} {ta : TE} {p pos apos : Pos} {ps : List Str} {sp : Sp} {W : WX}
def tMakeS (C : Addr) (sp : Sp) (E : L2.St → XK) (t : TA) : TE := fun σ H Q => t σ H fun vs H1 => ∀ x dx, H1 x = none → H1 dx = none → dx ≠ x →
  sp (.ref x :: vs) (upd (upd H1 dx (.own x)) x (.ins C dx [])) (fun v H2 => v = .non ∧ Q (.ref x) H2) (E σ)
theorem run_makeS {f : Addr} {fd : FuncData} {pins : List (Addr × Obj)} {σ : L2.St} {H : Hp} {s : Shared} {Q : VK} {us : List Value} {vs : List V} (M : Mk X.K C f) (F : FnOk X.prog X.w X.K X.mg X.base (L2.CX X.prog X.w) k f fd ps sp) (hr : Room (k + 1) X.A) (hb : Binds X.K fd ps [])
    (tk : Takes X W) (I : Inv X pins σ H s) (r : Vals vs us)
    (h : ∀ x dx, H x = none → H dx = none → dx ≠ x → sp (.ref x :: vs) (upd (upd H dx (.own x)) x (.ins C dx [])) (fun v H2 => v = .non ∧ Q (.ref x) H2) (WE W σ)) :
    wpAny (model X.prog X.w) X.A (call (.ref C) us) (EP X pins σ Q) X.xe s := by
  have hq := h (s.heap.objs.size + 1) s.heap.objs.size (I.hok.fresh (Nat.le_succ _)) (I.hok.fresh (Nat.le_refl _)) (Nat.ne_of_lt (Nat.lt_succ_self _))
  have I2 := Inv.made (C := C) I
  have r2 : Vals (V.ref (s.heap.objs.size + 1) :: vs) (Value.ref (s.heap.objs.size + 1) :: us) := .cons rfl r
  have hl : (Value.ref (s.heap.objs.size + 1) :: us).length = ps.length := by
    have e := r2.length
    rw [F.len _ _ _ _ hq] at e
    exact e.symm
  have hb2 := hb _ (Value.ref (s.heap.objs.size + 1) :: us) I2.kIn (by rw [List.append_nil]; exact hl)
  rw [List.append_nil] at hb2
  refine wpAny_call (make_map (f := f) I.kIn M.makes M.init (beq_iff_eq.mp M.fn) (codeAny_mono (F.run _ X.stack _ _ ⟨Value.ref (s.heap.objs.size + 1) :: us, []⟩ (Value.ref (s.heap.objs.size + 1) :: us) _ _ (WE W σ) (hr.make C us [])
    (I2.env0.make C us []) hb2 r2 hq) fun r s' hq' => ?_))
  cases r with
  | error e => exact passAt tk σ pins _ _ e s' I2 hq'
  | ok fl =>
    cases fl with
    | ret u =>
      obtain ⟨v, H', I3, rv, ev, q3⟩ := I2.after hq'
      subst ev
      exact ⟨rv, ⟨V.ref (s.heap.objs.size + 1), H', I3, rfl, q3⟩⟩
    | next => exact False.elim hq'
    | brk => exact False.elim hq'
    | cont => exact False.elim hq'
theorem q_make (M : MkC X.prog X.w X.K X.mg X.base k x C ps sp) (tk : Takes X W) (hr : Room (k + 1) X.A) (ha : PA X (e :: es) t) (hg : Gl X x := by rfl) (hdb : (x == ("__debug__" : Str)) = false := by decide)
    (he : starEach (e :: es) X.env = (false, eval e X.env) :: starEach es X.env := by rfl) (hpl : (backTo pos (starEach es X.env)).any (·.1) = false := by rfl) :
    PE X (.Call (.Name x p) (e :: es) [] pos) (tMakeS C sp (WE W) t) := by
  obtain ⟨f, fd, M1, hb, F⟩ := M.fn
  refine ⟨fun pins s σ H Q I h => ?_⟩
  refine wpAny_Call_Name_kw (ld_glob I hg M.g ?_ hdb)
  refine PySem.W.callWith_K (h₀ := X.base) I.ok.mod.kin M1.kp (thn (ha.run pos pins s σ H _ I h) fun us s1 ⟨vs, H1, I1, r, q⟩ => ⟨I1.kIn, ?_⟩) he hpl
  exact run_makeS M1 F hr hb tk I1 r q
theorem q_make0 (M : MkC X.prog X.w X.K X.mg X.base k x C ps sp) (tk : Takes X W) (hr : Room (k + 1) X.A) (hg : Gl X x := by rfl) (hdb : (x == ("__debug__" : Str)) = false := by decide) :
    PE X (.Call (.Name x p) [] [] pos) (tMakeS C sp (WE W) tNil) := by
  obtain ⟨f, fd, M1, hb, F⟩ := M.fn
  refine ⟨fun pins s σ H Q I h => ?_⟩
  refine wpAny_Call_Name_kw (ld_glob I hg M.g ?_ hdb)
  exact PySem.W.callWith_K0 I.kIn M1.kp (run_makeS (us := []) M1 F hr hb tk I .nil h)
theorem g_make {C : Addr} {sp : Sp} {E : L2.St → XK} {t : TA} {σ : L2.St} {H : Hp} {Q : VK} (h : t σ H fun vs H1 => ∀ x dx, H1 x = none → H1 dx = none → dx ≠ x →
    sp (.ref x :: vs) (upd (upd H1 dx (.own x)) x (.ins C dx [])) (fun v H2 => v = .non ∧ Q (.ref x) H2) (E σ)) : tMakeS C sp E t σ H Q := h
/-- o.m(..) -/
def tMethS (C : Addr) (m : Str) (sp : Sp) (E : L2.St → XK) (ta : TE) (t : TA) : TE := fun σ H Q => ta σ H fun x H1 => ∃ a dx fs, x = .ref a ∧ H1 a = some (.ins C dx fs) ∧ fs.lookup m = none ∧ t σ H1 fun vs H2 => sp (x :: vs) H2 Q (E σ)
theorem q_meth {pl : Sem Bool} (M : MtC X.prog X.w X.K X.mg X.base k C m ps sp) (tk : Takes X W) (hr : Room k X.A) (he : PE X o ta) (ha : PA X (e :: es) t)
    (hst : starEach (e :: es) X.env = (false, eval e X.env) :: starEach es X.env := by rfl) (hpl : (backTo pos (starEach es X.env)).any (·.1) = false := by rfl)
    (ht : eval (.Call (.Attribute o m apos) (e :: es) [] pos) X.env = (do
      let ov ← eval o X.env
      standAt apos.atName
      let (f, first) ← holding [ov] (getMethod ov m pl)
      callWith pos f first (backTo pos (starEach (e :: es) X.env)) (backToKw pos (keywordEach [] X.env))) := by rfl) :
    PE X (.Call (.Attribute o m apos) (e :: es) [] pos) (tMethS C m sp (WE W) ta t) := by
  obtain ⟨f, fd, hm, hb, F⟩ := M.fn
  refine ⟨fun pins s σ H Q I h => ?_⟩
  refine PySem.W.methodCall_KW (pl := pl) (thn (he.run pins s σ H _ I h) fun u s1 ⟨x, H1, I1, rx, a, dx, fs, ex, ea, l, q⟩ => ?_) ht
  subst ex
  obtain rfl : u = Value.ref a := rx
  refine getmeth_ok I1 ea M.c hm l ?_
  refine PySem.W.callWith_K (first := [.ref a]) (h₀ := X.base) I.ok.mod.kin hm.kp (thn (ha.run pos pins s1 σ H1 _ I1 q) fun us s2 ⟨vs, H2, I2, r, q2⟩ => ⟨I2.kIn, ?_⟩) hst hpl
  exact run_fnS (us := .ref a :: us) (vs := .ref a :: vs) (E := WE W) F hr hb (passAt tk σ) I2 (.cons rfl r) q2
theorem q_meth0 {pl : Sem Bool} (M : MtC X.prog X.w X.K X.mg X.base k C m ps sp) (tk : Takes X W) (hr : Room k X.A) (he : PE X o ta)
    (ht : eval (.Call (.Attribute o m apos) [] [] pos) X.env = (do
      let ov ← eval o X.env
      standAt apos.atName
      let (f, first) ← holding [ov] (getMethod ov m pl)
      callWith pos f first (backTo pos (starEach [] X.env)) (backToKw pos (keywordEach [] X.env))) := by rfl) :
    PE X (.Call (.Attribute o m apos) [] [] pos) (tMethS C m sp (WE W) ta tNil) := by
  obtain ⟨f, fd, hm, hb, F⟩ := M.fn
  refine ⟨fun pins s σ H Q I h => ?_⟩
  refine PySem.W.methodCall_KW (pl := pl) (thn (he.run pins s σ H _ I h) fun u s1 ⟨x, H1, I1, rx, a, dx, fs, ex, ea, l, q⟩ => ?_) ht
  subst ex
  obtain rfl : u = Value.ref a := rx
  refine getmeth_ok I1 ea M.c hm l ?_
  exact PySem.W.callWith_K0 (first := [.ref a]) I1.kIn hm.kp (run_fnS (us := [.ref a]) (vs := [.ref a]) (E := WE W) F hr hb (passAt tk σ) I1 (.cons rfl .nil) q)
theorem g_meth {C : Addr} {m : Str} {sp : Sp} {E : L2.St → XK} {ta : TE} {t : TA} {σ : L2.St} {H : Hp} {Q : VK} (h : ta σ H fun x H1 => ∃ a dx fs, x = .ref a ∧ H1 a = some (.ins C dx fs) ∧ fs.lookup m = none ∧ t σ H1 fun vs H2 => sp (x :: vs) H2 Q (E σ)) : tMethS C m sp E ta t σ H Q := h
end
end NL
namespace NL
open PySem L2
/-! ### facts of the written part, asked once at the head -/
def oexB (K : PySem.W.Frag) (C : Addr) : Bool := (match K.lookup C with
  | some ⟨.type t, _, .cls cd, sl⟩ => decide (t = "type") && (match cd.mro, sl.toList with
    | .ref c :: bm, [_, _, _, _, some (.builtin n), _] => decide (c = C) && (decide (n = "ValueError.__new__") && (!cd.hasDel && (cd.hasDict && PySem.HandSPX.refsVE bm)))
    | _, _ => false)
  | _ => false) && (decide (PySem.W.findIn K (.ref C) "__setattr__" = some (some (.builtin "object.__setattr__"))) && (decide (PySem.W.subIn K (.ref C) (.type "BaseException") = some true) && (decide (PySem.W.typeIn K (.ref C) = some (.type "type")) && PySem.W.keepIn K (.ref C))))
theorem oexB_ok {K : PySem.W.Frag} {C : Addr} (h : oexB K C = true) : OexC K C := by
  unfold oexB at h
  simp only [Bool.and_eq_true, decide_eq_true_eq] at h
  obtain ⟨h0, h1, h2, h3, h4⟩ := h
  refine ⟨?_, h1, h2, h3, h4⟩
  split at h0
  · rename_i t dd cd sl ho
    simp only [Bool.and_eq_true, decide_eq_true_eq] at h0
    obtain ⟨rfl, h0⟩ := h0
    split at h0
    · rename_i c bm k0 k1 k2 k3 n k5 hm hs
      simp only [Bool.and_eq_true, decide_eq_true_eq, Bool.not_eq_true'] at h0
      obtain ⟨rfl, rfl, hdel, hd, hr⟩ := h0
      obtain ⟨nm, bs, mro, ns, qn, hd', sn, sub, ab, col, del⟩ := cd
      dsimp only at hm hdel hd
      subst hm hdel hd
      have hsl : sl = #[k0, k1, k2, k3, some (.builtin "ValueError.__new__"), k5] := by
        obtain ⟨l⟩ := sl
        simp only at hs
        rw [hs]
      subst hsl
      exact ⟨nm, qn, ns, bs, bm, sn, sub, ab, col, dd, k0, k1, k2, k3, k5, ho, hr⟩
    · cases h0
  · cases h0
def excB (K : PySem.W.Frag) (D : Addr) : Bool := decide (PySem.W.findIn K (.ref D) "__getattribute__" = some (some (.builtin "BaseException.__getattribute__"))) && (decide (PySem.W.findIn K (.ref D) "__getattr__" = some none) && (decide (PySem.W.subIn K (.ref D) (.type "BaseException") = some true) && (PySem.W.hasDictIn K D &&
  (decide (PySem.W.findIn K (.ref D) "__class__" = some (some (.builtin "object.__class__"))) && (decide (PySem.W.specialIn K (.builtin "object.__class__") "__get__" = some (some (.builtin "getset_descriptor.__get__"))) && (decide (PySem.W.takesIn K (.builtin "object.__class__") = some true) && decide (PySem.W.mroIn K D (.type "object") = some true)))))))
theorem excB_ok {K : PySem.W.Frag} {D : Addr} (h : excB K D = true) : ExcC K D := by
  unfold excB at h
  simp only [Bool.and_eq_true, decide_eq_true_eq] at h
  obtain ⟨h1, h2, h3, h4, h5, h6, h7, h8⟩ := h
  exact ⟨h1, h2, h3, h4, h5, h6, h7, h8⟩
/-- a class by its name: a module's one, or a built-in type -/
inductive Cn where
  | own (x : Str) | ty (n : String)
def Cn.v (K : PySem.W.Frag) : Cn → Value
  | .own x => .ref (He.ga K x)
  | .ty n => .type n
inductive Fx where
  | fa (f : He.Fa)
  /-- an own exception class with a dict -/
  | oex (x : Str)
  | fnI (x : Str)
  | excC (x : Str)
  | xf (x : Str)
  /-- isinstance of an x in y -/
  | kit (x : Str) (y : Cn) (b : Bool)
  | tup (x : Str) (vs : List He.Dv)
def fnB (K : PySem.W.Frag) (x : Str) : Bool := He.eqO (PySem.W.findIn K (.ref (He.ga K x)) "__init__") (some (some (.ref (He.ma K (He.ga K x) "__init__")))) && decide (PySem.W.typeIn K (.ref (He.ma K (He.ga K x) "__init__")) = some (.type "function"))
def Fx.ok (K : PySem.W.Frag) : Fx → Bool
  | .fa f => f.ok K
  | .oex x => oexB K (He.ga K x)
  | .fnI x => fnB K x
  | .excC x => excB K (He.ga K x)
  | .xf x => xfB K (He.ga K x)
  | .kit x y b => decide (PySem.W.kitOne K (.ref (He.ga K x)) (y.v K) = some b)
  | .tup x vs => He.tupB K x vs
def fxB (l : List Fx) (K : PySem.W.Frag) : Bool := l.all fun f => f.ok K
theorem fxB_at {l : List Fx} {K : PySem.W.Frag} (h : fxB l K = true) (i : Nat) {f : Fx} (e : l[i]? = some f := by rfl) : f.ok K = true :=
  List.all_eq_true.mp h f (List.mem_of_getElem? e)
section
variable {K : PySem.W.Frag} {h : Heap} {mg : Str → Option Value} {l : List Fx}
theorem fx_glo (X : K.In h) (G : h.Ns mainGlobals mg) (c : fxB l K = true) (i : Nat) {x : Str} (e : l[i]? = some (.fa (.glo x)) := by rfl) : mg x = some (.ref (He.ga K x)) := He.glo_ok X G (fxB_at c i e)
theorem fx_free (X : K.In h) (G : h.Ns mainGlobals mg) (c : fxB l K = true) (i : Nat) {x : Str} (e : l[i]? = some (.fa (.free x)) := by rfl) : mg x = none := He.free_ok X G (fxB_at c i e)
theorem fx_int (X : K.In h) (G : h.Ns mainGlobals mg) (c : fxB l K = true) (i : Nat) {x : Str} {n : Int} (e : l[i]? = some (.fa (.int x n)) := by rfl) : GV mg x (.int n) := by
  obtain ⟨t, q⟩ := He.int_ok X G (fxB_at c i e)
  exact ⟨_, q, t, rfl⟩
theorem fx_cls (c : fxB l K = true) (i : Nat) {x : Str} (e : l[i]? = some (.fa (.cls x)) := by rfl) : Cls K (He.ga K x) := He.cls_ok (fxB_at c i e)
theorem fx_noat (c : fxB l K = true) (i : Nat) {x f : Str} (e : l[i]? = some (.fa (.noat x f)) := by rfl) : NoAttr K (He.ga K x) f := He.noat_ok (fxB_at c i e)
theorem fx_meth (c : fxB l K = true) (i : Nat) {x m : Str} (e : l[i]? = some (.fa (.meth x m)) := by rfl) : Meth K (He.ga K x) m (He.ma K (He.ga K x) m) := He.meth_ok (fxB_at c i e)
theorem fx_mkr (c : fxB l K = true) (i : Nat) {x : Str} (e : l[i]? = some (.fa (.mkr x)) := by rfl) : Mk K (He.ga K x) (He.ma K (He.ga K x) "__init__") := He.mkr_ok (fxB_at c i e)
theorem fx_exm (c : fxB l K = true) (i : Nat) {x y : Str} {b : Bool} (e : l[i]? = some (.fa (.exm x y b)) := by rfl) : PySem.W.exmOne K (.ref (He.ga K x)) (.ref (He.ga K y)) = some b := He.exm_ok (fxB_at c i e)
theorem fx_oex (c : fxB l K = true) (i : Nat) {x : Str} (e : l[i]? = some (.oex x) := by rfl) : OexC K (He.ga K x) := oexB_ok (fxB_at c i e)
theorem fx_exc (c : fxB l K = true) (i : Nat) {x : Str} (e : l[i]? = some (.excC x) := by rfl) : ExcC K (He.ga K x) := excB_ok (fxB_at c i e)
theorem fx_xf (c : fxB l K = true) (i : Nat) {x : Str} (e : l[i]? = some (.xf x) := by rfl) : XfC K (He.ga K x) := xfB_ok (fxB_at c i e)
theorem fx_kit (c : fxB l K = true) (i : Nat) {x : Str} {y : Cn} {b : Bool} (e : l[i]? = some (.kit x y b) := by rfl) : PySem.W.kitOne K (.ref (He.ga K x)) (y.v K) = some b := of_decide_eq_true (fxB_at c i e)
theorem fx_tup (c : fxB l K = true) (i : Nat) {x : Str} {vs : List He.Dv} (e : l[i]? = some (.tup x vs) := by rfl) (H : Hp) : SqT K H (He.ga K x) (vs.map (He.Dv.v K)) := He.tupB_ok (fxB_at c i e) H
theorem fx_fnI (c : fxB l K = true) (i : Nat) {x : Str} (e : l[i]? = some (.fnI x) := by rfl) : PySem.W.findIn K (.ref (He.ga K x)) "__init__" = some (some (.ref (He.ma K (He.ga K x) "__init__"))) ∧ PySem.W.typeIn K (.ref (He.ma K (He.ga K x) "__init__")) = some (.type "function") := by
  have q : fnB K x = true := fxB_at c i e
  unfold fnB at q
  simp only [Bool.and_eq_true, decide_eq_true_eq] at q
  exact ⟨He.eqO_ok q.1, q.2⟩
end
theorem hCX {P : Program} (w : World) (H : Hp) (s : Shared) (e : Value) (s' : Shared) (h : L2.CX P w [] H s (fun _ _ _ => False) e s') : False := by
  obtain ⟨_, _, _, _, _, _, _, _, _, _, _, _, z⟩ := h
  exact z
end NL
namespace NL
open PySem L2
local macro_rules | `(tactic| walk_at "num") => `(tactic| first | omega | assumption)
local macro_rules | `(tactic| walk_at "ne") => `(tactic| first
  | assumption
  | (apply Ne.symm; assumption)
  | (refine' ne_of_none ?n1 (by assumption); (case n1 => walk_at "hp"))
  | (refine' Ne.symm (ne_of_none ?n1 (by assumption)); (case n1 => walk_at "hp")))
local macro_rules | `(tactic| walk_at "hp") => `(tactic| first
  | assumption
  | with_reducible exact upd_same
  | ((with_reducible refine Eq.trans (upd_ne ?n1) ?n2); (case n1 => walk_at "ne"); (case n2 => walk_at "hp"))
  | ((with_reducible refine hp_same (by assumption) ?n2); (case n2 => walk_at "hp"))
  | ((with_reducible refine hp_sx (by assumption) ?n1 ?n2); (case n1 => simp only [List.mem_cons, List.not_mem_nil, or_false]; walk_at "ne"); (case n2 => walk_at "hp")))
local macro_rules | `(tactic| walk_at "sq") => `(tactic| first
  | assumption
  | exact Or.inl (by walk_at "sql")
  | exact Or.inr (by walk_at "sqt"))
local macro_rules | `(tactic| walk_at "sql") => `(tactic| first
  | assumption
  | exact SqL.of (by walk_at "hp")
  | (refine sqL_same (by assumption) ?n1; (case n1 => walk_at "same")))
local macro_rules | `(tactic| walk_at "same") => `(tactic| first
  | assumption
  | exact Same.refl _
  | (refine L2.Same.new ?n1 (by assumption); (case n1 => walk_at "same"))
  | (refine L2.Same.mut ?n1 (by first | assumption | exact Same.free (by assumption) (by assumption)); (case n1 => walk_at "same")))
local macro_rules | `(tactic| walk_at "sqt") => `(tactic| first
  | assumption
  | exact SqT.of (by walk_at "hp"))
local macro_rules | `(tactic| walk_at "size") => `(tactic| (rw [sizeLine_eq] <;> first | omega | (simp; omega)))
local macro_rules | `(tactic| walk_at "flat") => `(tactic| first | assumption | exact flat_strs _ | exact flat_ints _ | rfl | simp [flatV])
local macro_rules | `(tactic| walk_at "go1") => `(tactic| first
  | with_reducible refine g_seq ?_
  | with_reducible refine g_asg ?_
  | with_reducible refine g_name ?_
  | with_reducible refine g_op ?_
  | ((with_reducible refine' g_var ?z ?_); (case z => exact rfl))
  | with_reducible refine g_c ?_
  | with_reducible refine g_cb ?_
  | with_reducible refine g_cons ?_
  | with_reducible refine g_nil ?_
  | with_reducible refine g_ifS ?_
  | with_reducible refine g_test ?_
  | with_reducible refine g_tb ?_
  | with_reducible refine g_bl ?_
  | with_reducible refine g_not ?_
  | with_reducible refine g_and ?_
  | with_reducible refine g_or ?_
  | with_reducible refine g_ret ?_
  | with_reducible refine g_retN ?_
  | with_reducible refine g_drop ?_
  | with_reducible refine g_ifE ?_
  | with_reducible refine g_callS ?_
  | with_reducible refine g_sub ?_
  | with_reducible refine g_un ?_
  | with_reducible refine g_next ?_
  | with_reducible refine g_cmp_i ?_
  | with_reducible refine g_add_i ?_
  | with_reducible refine g_sub_i ?_
  | with_reducible refine g_int_i ?_
  | with_reducible refine g_eq_i ?_
  | with_reducible refine g_eq_s ?_
  | with_reducible refine g_eq_b ?_
  | with_reducible refine g_ne_i ?_
  | with_reducible refine g_ne_s ?_
  | with_reducible refine g_ne_b ?_
  | with_reducible refine g_str_s ?_
  | with_reducible refine g_abs ?_
  | with_reducible refine g_max ?_
  | with_reducible refine g_min ?_
  | with_reducible refine g_isN ?_
  | with_reducible refine g_isNotN ?_
  | ((with_reducible refine g_mod_i ?z ?_); (case z => walk_at "num"))
  | ((with_reducible refine g_div_i ?z ?_); (case z => exact ⟨by walk_at "num", by first | assumption | decide⟩))
  | ((with_reducible refine g_mul_i ?z ?_); (case z => first | exact Or.inl (Or.inr ⟨by omega, by omega⟩) | exact Or.inl (Or.inl ⟨by omega, by omega⟩) | assumption))
  | ((with_reducible refine' g_ix_l ?z1 ?z2 ?_); (case z1 => walk_at "sq"); (case z2 => first | rfl | assumption))
  | ((with_reducible refine' g_setL ?z1 ?z2 ?_); (case z1 => walk_at "hp"); (case z2 => first | rfl | assumption))
  | ((with_reducible refine' g_len_l ?z1 ?_); (case z1 => walk_at "sq"))
  | ((with_reducible refine' g_aug ?z ?_); (case z => exact rfl))
  | with_reducible refine g_for ?_
  | with_reducible refine g_lc ?_
  | with_reducible refine g_iL ?_
  | with_reducible refine g_iT ?_
  | with_reducible refine g_iS ?_
  | with_reducible refine g_iS1 ?_
  | with_reducible refine g_iE ?_
  | with_reducible refine g_iR ?_
  | ((with_reducible refine' g_iL1 ?z1 ?_); (case z1 => walk_at "sql"))
  | ((with_reducible refine' g_iT1 ?z1 ?_); (case z1 => walk_at "sqt"))
  | ((with_reducible refine' g_iE1 ?z1 ?_); (case z1 => walk_at "sql"))
  | ((with_reducible refine g_iR1 ?z1 ?z2 ?_); (case z1 => walk_at "num"); (case z2 => walk_at "num"))
  | with_reducible refine g_yes ?_
  | with_reducible refine g_sl ?_
  | with_reducible refine g_noP ?_
  | with_reducible refine g_part ?_
  | ((with_reducible refine g_pow_i ?z ?_); (case z => exact ⟨by decide, by decide, by decide⟩))
  | ((with_reducible refine g_len_s ?z ?_); (case z => first | assumption | walk_at "size"))
  | with_reducible refine iteT ?_
  | with_reducible refine iteF ?_
  | with_reducible refine iteNT ?_
  | with_reducible refine iteNF ?_
  | with_reducible refine g_int1 ?_
  | ((with_reducible refine' g_slL ?z1 ?_); (case z1 => walk_at "sql"))
  | ((with_reducible refine' g_listL ?z1 ?_); (case z1 => walk_at "sq"))
  | ((with_reducible refine' g_inLs ?z1 ?_); (case z1 => walk_at "sq"))
  | ((with_reducible refine' g_ninLs ?z1 ?_); (case z1 => walk_at "sq"))
  | with_reducible refine g_ip ?_
  | with_reducible refine g_rU ?_
  | ((with_reducible refine' g_inL ?z1 ?z2 ?z3 ?_); (case z1 => walk_at "sq"); (case z2 => rfl); (case z3 => walk_at "flat"))
  | ((with_reducible refine' g_ninL ?z1 ?z2 ?z3 ?_); (case z1 => walk_at "sq"); (case z2 => rfl); (case z3 => walk_at "flat"))
  | with_reducible refine g_inS ?_
  | with_reducible refine g_ninS ?_
  | with_reducible refine g_bm ?_
  | with_reducible refine g_bm0 ?_
  | ((with_reducible refine' g_tyL ?z1 ?_); (case z1 => walk_at "sql"))
  | with_reducible refine g_tyS ?_
  | ((with_reducible refine' g_app ?z1 ?z2 ?_); (case z1 => walk_at "hp"); (case z2 => walk_at "size"))
  | ((with_reducible refine' g_join ?z1 ?z2 ?_); (case z1 => walk_at "sq"); (case z2 => walk_at "size"))
  | ((with_reducible refine g_words ?z ?_); (case z => walk_at "size"))
  | ((with_reducible refine g_split ?z1 ?z ?_); (case z1 => rfl); (case z => walk_at "size"))
  | with_reducible refine g_lst ?_
  | with_reducible refine g_tup ?_
  | with_reducible refine tru_b ?_
  | with_reducible refine tru_n ?_
  | with_reducible refine tru_i ?_
  | with_reducible refine g_andT ?_
  | with_reducible refine g_orT ?_
  | with_reducible refine g_notT ?_
  | with_reducible refine g_raise ?_
  | with_reducible refine g_raised ?_
  | with_reducible refine g_make ?_
  | with_reducible refine g_meth ?_
  | with_reducible refine g_fld ?_
  | with_reducible refine g_sfld ?_
  | ((with_reducible refine' g_gf ?z1 ?z2 ?z3 ?z4 ?_); (case z1 => walk_at "hp"); (case z2 => assumption); (case z3 => assumption); (case z4 => rfl))
  | ((with_reducible refine' g_sf ?z1 ?z2 ?z3 ?z4 ?_); (case z1 => walk_at "hp"); (case z2 => assumption); (case z3 => assumption); (case z4 => exact Nat.lt_of_lt_of_le (Nat.lt_succ_self _) (Nat.le_of_ble_eq_true rfl)))
  | ((with_reducible refine' g_gtup ?z1 ?z2 ?_); (case z1 => walk_at "sqt"); (case z2 => rfl))
  | with_reducible refine g_gcons ?_
  | with_reducible refine g_gnil ?_
  | with_reducible refine g_brk ?_
  | with_reducible refine g_cont ?_)
local macro_rules | `(tactic| walk_at "go") => `(tactic| repeat walk_at "go1")
def top (i : Nat) : Stmt := PySem.Challenge.pw_nowlater_k02_sums_refused.main.body.getD i (.Pass ⟨0, 0, 0, 0⟩)
abbrev FnP (K : PySem.W.Frag) (x qual : Str) (st : Stmt) (f : Addr) (fd : FuncData) : Prop := FunD K x qual (defArgs st) (defBody st) (defScope st) [] [] f fd
structure Txt (K : PySem.W.Frag) (mg : Str → Option Value) : Prop where
  n_ValueError : mg "ValueError" = none
  n_abs : mg "abs" = none
  n_bool : mg "bool" = none
  n_enumerate : mg "enumerate" = none
  n_int : mg "int" = none
  n_isinstance : mg "isinstance" = none
  n_len : mg "len" = none
  n_list : mg "list" = none
  n_max : mg "max" = none
  n_min : mg "min" = none
  n_range : mg "range" = none
  n_str : mg "str" = none
  g_MOST_TERMS : GV mg "MOST_TERMS" (.int 5)
  g_BadCondition : GV mg "BadCondition" (.ref (He.ga K "BadCondition"))
  m_BadCondition : mg "BadCondition" = some (.ref (He.ga K "BadCondition"))
  g_BadSum : GV mg "BadSum" (.ref (He.ga K "BadSum"))
  m_BadSum : mg "BadSum" = some (.ref (He.ga K "BadSum"))
  g_NowlaterError : GV mg "NowlaterError" (.ref (He.ga K "NowlaterError"))
  m_NowlaterError : mg "NowlaterError" = some (.ref (He.ga K "NowlaterError"))
  g_Sum : GV mg "Sum" (.ref (He.ga K "Sum"))
  m_Sum : mg "Sum" = some (.ref (He.ga K "Sum"))
  c_Sum : Cls K (He.ga K "Sum")
  a_Sum_terms : NoAttr K (He.ga K "Sum") "terms"
  a_Sum_shown : NoAttr K (He.ga K "Sum") "shown"
  x_exm : PySem.W.exmOne K (.ref (He.ga K "BadSum")) (.ref (He.ga K "NowlaterError")) = some true
  x_k1 : PySem.W.kitOne K (.ref (He.ga K "BadSum")) (.ref (He.ga K "BadSum")) = some true
  x_k2 : PySem.W.kitOne K (.ref (He.ga K "BadSum")) (.ref (He.ga K "BadCondition")) = some false
  x_k3 : PySem.W.kitOne K (.ref (He.ga K "BadSum")) (.type "ValueError") = some true
  x_c : ExcC K (He.ga K "BadSum")
  x_f : XfC K (He.ga K "BadSum")
  x_no : PySem.W.findIn K (.ref (He.ga K "BadSum")) "at" = some none
abbrev s_law_seed : Stmt := (top 12)
theorem sc_law_seed : FnScope ["_law_script", "_law_at", "_law_cell", "_law_mixed", "_law_k", "_law_each"] ["_law_script", "_law_at"] (defScope s_law_seed) := ⟨rfl, rfl, rfl, by decide +kernel, rfl, by decide +kernel, by decide +kernel⟩
abbrev s_law_take : Stmt := (top 13)
theorem sc_law_take : FnScope ["_law_bag", "_law_many", "_law_digit"] ["_law_bag", "_law_many"] (defScope s_law_take) := ⟨rfl, rfl, rfl, by decide +kernel, rfl, by decide +kernel, by decide +kernel⟩
abbrev s_law_of : Stmt := (top 14)
theorem sc_law_of : FnScope ["_law_bag", "_law_some"] ["_law_bag", "_law_some"] (defScope s_law_of) := ⟨rfl, rfl, rfl, by decide +kernel, rfl, by decide +kernel, by decide +kernel⟩
abbrev s_is_number : Stmt := (top 7)
theorem sc_is_number : FnScope ["token", "char"] ["token"] (defScope s_is_number) := ⟨rfl, rfl, rfl, by decide +kernel, rfl, by decide +kernel, by decide +kernel⟩
abbrev s_read_sum : Stmt := (top 10)
theorem sc_read_sum : FnScope ["tokens", "start", "names", "terms", "factor", "at", "token"] ["tokens", "start", "names"] (defScope s_read_sum) := ⟨rfl, rfl, rfl, by decide +kernel, rfl, by decide +kernel, by decide +kernel⟩
abbrev s_Sum___init__ : Stmt := (inClass (top 8) 0)
theorem sc_Sum___init__ : FnScope ["self", "text", "names", "tokens", "terms", "stop"] ["self", "text", "names"] (defScope s_Sum___init__) := ⟨rfl, rfl, rfl, by decide +kernel, rfl, by decide +kernel, by decide +kernel⟩
abbrev s_law_names : Stmt := (top 15)
theorem sc_law_names : FnScope ["_law_bag", "_law_many", "_law_first", "_law_names_here", "_law_k", "_law_letters", "_law_turn"] ["_law_bag", "_law_many"] (defScope s_law_names) := ⟨rfl, rfl, rfl, by decide +kernel, rfl, by decide +kernel, by decide +kernel⟩
abbrev s_law_is_number : Stmt := (top 16)
theorem sc_law_is_number : FnScope ["_law_token", "_law_sign"] ["_law_token"] (defScope s_law_is_number) := ⟨rfl, rfl, rfl, by decide +kernel, rfl, by decide +kernel, by decide +kernel⟩
abbrev s_law_wrong : Stmt := (top 17)
theorem sc_law_wrong : FnScope ["_law_tokens_here", "_law_names_here", "_law_at", "_law_token"] ["_law_tokens_here", "_law_names_here"] (defScope s_law_wrong) := ⟨rfl, rfl, rfl, by decide +kernel, rfl, by decide +kernel, by decide +kernel⟩
abbrev s_law_tokens : Stmt := (top 18)
theorem sc_law_tokens : FnScope ["_law_bag", "_law_names_here", "_law_tokens_here", "_law_at", "_law_good", "_law_odd"] ["_law_bag", "_law_names_here"] (defScope s_law_tokens) := ⟨rfl, rfl, rfl, by decide +kernel, rfl, by decide +kernel, by decide +kernel⟩
abbrev s_law_told : Stmt := (top 19)
theorem sc_law_told : FnScope ["_law_text", "_law_names_here", "e"] ["_law_text", "_law_names_here"] (defScope s_law_told) := ⟨rfl, rfl, rfl, by decide +kernel, rfl, by decide +kernel, by decide +kernel⟩
abbrev s_law : Stmt := (top 20)
theorem sc_law : FnScope ["_law_script", "_law_at", "_law_bag", "_law_names_here", "_law_tokens_here", "_law_due", "_law_blanks", "_law_told_here", "_law_begin"] ["_law_script"] (defScope s_law) := ⟨rfl, rfl, rfl, by decide +kernel, rfl, by decide +kernel, by decide +kernel⟩
abbrev s_BadSum___init__ : Stmt := (inClass (top 3) 0)
theorem sc_BadSum___init__ : FnScope ["self", "at"] ["self", "at"] (defScope s_BadSum___init__) := ⟨rfl, rfl, rfl, by decide +kernel, rfl, by decide +kernel, by decide +kernel⟩

/-- a token: signs from ! to ~, at least one -/
def Tk (t : Str) : Prop := t.cps.toList ≠ [] ∧ ∀ c ∈ t.cps.toList, 33 ≤ c ∧ c ≤ 126
def Bl (s : Str) : Prop := ∀ c ∈ s.cps.toList, c = 32
theorem sp_no : ∀ c : Nat, c ≤ 126 → 33 ≤ c → Unicode.isSpace c = false := by decide +kernel
theorem sp_yes : Unicode.isSpace 32 = true := by decide +kernel
theorem str_eq {a b : Str} (h : a.cps.toList = b.cps.toList) : a = b := Str.ext' (Array.toList_inj.mp h)
theorem scan_tok : ∀ (l : List Nat) (ws : List Str) (r : Str), (∀ c ∈ l, 33 ≤ c ∧ c ≤ 126) → l.foldl KWd.step (ws, r) = (ws, r ++ ⟨l.toArray⟩)
  | [], ws, r, _ => by
    have e : r ++ (⟨#[]⟩ : Str) = r := str_eq (by rw [Str.cps_append]; simp)
    show (ws, r) = (ws, r ++ ⟨#[]⟩)
    rw [e]
  | c :: l, ws, r, h => by
    have hc := h c (List.mem_cons_self ..)
    rw [List.foldl_cons]
    have e : KWd.step (ws, r) c = (ws, r ++ ⟨#[c]⟩) := by
      unfold KWd.step
      rw [if_neg (by rw [sp_no c hc.2 hc.1]; exact Bool.false_ne_true)]
    rw [e, scan_tok l ws _ fun d hd => h d (List.mem_cons_of_mem _ hd)]
    have e2 : r ++ (⟨#[c]⟩ : Str) ++ (⟨l.toArray⟩ : Str) = r ++ (⟨(c :: l).toArray⟩ : Str) := str_eq (by simp [Str.cps_append])
    rw [e2]
theorem scan_bl0 : ∀ (l : List Nat) (ws : List Str), (∀ c ∈ l, c = 32) → l.foldl KWd.step (ws, Str.empty) = (ws, Str.empty)
  | [], ws, _ => rfl
  | c :: l, ws, h => by
    have hc := h c (List.mem_cons_self ..)
    subst hc
    rw [List.foldl_cons]
    have e : KWd.step (ws, Str.empty) 32 = (ws, Str.empty) := by
      unfold KWd.step
      rw [if_pos sp_yes]
      rfl
    rw [e]
    exact scan_bl0 l ws fun d hd => h d (List.mem_cons_of_mem _ hd)
theorem scan_bl1 (l : List Nat) (ws : List Str) (r : Str) (h : ∀ c ∈ l, c = 32) (h0 : l ≠ []) (hr : r.length ≠ 0) : l.foldl KWd.step (ws, r) = (ws ++ [r], Str.empty) := by
  cases l with
  | nil => exact absurd rfl h0
  | cons c l =>
    have hc := h c (List.mem_cons_self ..)
    subst hc
    rw [List.foldl_cons]
    have e : KWd.step (ws, r) 32 = (ws ++ [r], Str.empty) := by
      unfold KWd.step
      rw [if_pos sp_yes, if_neg hr]
    rw [e]
    exact scan_bl0 l _ fun d hd => h d (List.mem_cons_of_mem _ hd)
theorem tk_len {t : Str} (h : Tk t) : t.length ≠ 0 := by
  intro z
  apply h.1
  have : t.cps.size = 0 := z
  simpa using this
theorem empty_app (t : Str) : Str.empty ++ t = t := str_eq (by rw [Str.cps_append]; simp [Str.empty])
theorem join_cons2 (sep x y : Str) (r : List Str) : Str.join sep (x :: y :: r) = x ++ sep ++ Str.join sep (y :: r) := rfl
theorem scan_join (sep tail : Str) (hs : Bl sep) (hs0 : sep.cps.toList ≠ []) (ht : Bl tail) : ∀ (toks ws : List Str), (∀ t ∈ toks, Tk t) → KWd.fin ((Str.join sep toks ++ tail).cps.toList.foldl KWd.step (ws, Str.empty)) = ws ++ toks
  | [], ws, _ => by
    have e : (Str.join sep [] ++ tail).cps.toList = tail.cps.toList := by
      rw [show Str.join sep [] = Str.empty from rfl, empty_app]
    rw [e, scan_bl0 _ ws ht]
    show (if Str.empty.length = 0 then ws else _) = _
    rw [if_pos (show Str.empty.length = 0 from rfl), List.append_nil]
  | [x], ws, h => by
    have hx := h x (List.mem_cons_self ..)
    rw [show Str.join sep [x] = x from rfl, Str.cps_append, Array.toList_append, List.foldl_append, scan_tok _ ws _ hx.2]
    have e : Str.empty ++ (⟨x.cps.toList.toArray⟩ : Str) = x := by rw [empty_app]
    rw [e]
    by_cases h0 : tail.cps.toList = []
    · rw [h0]
      show (if x.length = 0 then ws else ws ++ [x]) = _
      rw [if_neg (tk_len hx)]
    · rw [scan_bl1 _ ws x ht h0 (tk_len hx)]
      show (if Str.empty.length = 0 then _ else _) = _
      rw [if_pos (show Str.empty.length = 0 from rfl)]
  | x :: y :: r, ws, h => by
    have hx := h x (List.mem_cons_self ..)
    rw [join_cons2]
    have e1 : (x ++ sep ++ Str.join sep (y :: r) ++ tail).cps.toList = x.cps.toList ++ (sep.cps.toList ++ (Str.join sep (y :: r) ++ tail).cps.toList) := by
      simp [Str.cps_append]
    rw [e1, List.foldl_append, scan_tok _ ws _ hx.2, List.foldl_append]
    have e : Str.empty ++ (⟨x.cps.toList.toArray⟩ : Str) = x := by rw [empty_app]
    rw [e, scan_bl1 _ ws x hs hs0 (tk_len hx), scan_join sep tail hs hs0 ht (y :: r) (ws ++ [x]) fun t ht' => h t (List.mem_cons_of_mem _ ht')]
    simp
theorem words_join {head sep tail : Str} {toks : List Str} (hh : Bl head) (hs : Bl sep) (hs0 : sep.cps.toList ≠ []) (ht : Bl tail) (h : ∀ t ∈ toks, Tk t) : Txt.words (head ++ (Str.join sep toks ++ tail)) = toks := by
  rw [KWd.words_scan]
  unfold KWd.scan
  rw [Str.cps_append, Array.toList_append, List.foldl_append, scan_bl0 _ [] hh, scan_join sep tail hs hs0 ht toks [] h, List.nil_append]
theorem words_join0 {sep tail : Str} {toks : List Str} (hs : Bl sep) (hs0 : sep.cps.toList ≠ []) (ht : Bl tail) (h : ∀ t ∈ toks, Tk t) : Txt.words (Str.join sep toks ++ tail) = toks := by
  have := words_join (head := Str.empty) (by intro c hc; simp [Str.empty] at hc) hs hs0 ht h
  rwa [empty_app] at this
theorem join_len_le (sep : Str) (B : Nat) : ∀ (toks : List Str), (∀ t ∈ toks, t.length ≤ B) → (Str.join sep toks).length ≤ toks.length * (B + sep.length)
  | [], _ => by show 0 ≤ _; omega
  | [x], h => by
    have := h x (List.mem_cons_self ..)
    show x.length ≤ 1 * _
    omega
  | x :: y :: r, h => by
    have h1 := h x (List.mem_cons_self ..)
    have h2 := join_len_le sep B (y :: r) fun t ht => h t (List.mem_cons_of_mem _ ht)
    rw [join_cons2, Str.length_append, Str.length_append]
    have e : (x :: y :: r).length * (B + sep.length) = (y :: r).length * (B + sep.length) + (B + sep.length) := by
      rw [List.length_cons, Nat.add_mul, Nat.one_mul]
    omega
theorem sum_len_le {B : Nat} : ∀ {toks : List Str}, (∀ t ∈ toks, t.length ≤ B) → (toks.map (·.length)).sum ≤ toks.length * B
  | [], _ => by simp
  | x :: r, h => by
    have h1 := h x (List.mem_cons_self ..)
    have h2 := sum_len_le (toks := r) fun t ht => h t (List.mem_cons_of_mem _ ht)
    simp only [List.map_cons, List.sum_cons, List.length_cons, Nat.add_mul, Nat.one_mul]
    omega


/-- the bag of draws at b: two ints -/
def Bag (H : Hp) (b : Addr) : Prop := ∃ x y : Int, H b = some (.lst [.int x, .int y])
theorem Bag.at {H : Hp} {b : Addr} {x y : Int} : Bag (upd H b (.lst [.int x, .int y])) b := ⟨x, y, upd_same⟩
theorem Bag.new {H : Hp} {b p : Addr} {o : HO} (h : Bag H b) (n : H p = none) : Bag (upd H p o) b := by
  obtain ⟨x, y, e⟩ := h
  exact ⟨x, y, by rw [upd_ne (ne_of_none e n)]; exact e⟩
theorem Bag.put {H : Hp} {b p : Addr} {o : HO} (h : Bag H b) (n : b ≠ p) : Bag (upd H p o) b := by
  obtain ⟨x, y, e⟩ := h
  exact ⟨x, y, by rw [upd_ne n]; exact e⟩
theorem Bag.ne {H : Hp} {b p : Addr} (h : Bag H b) (n : H p = none) : p ≠ b := by
  obtain ⟨x, y, e⟩ := h
  exact (ne_of_none e n).symm
theorem atI_mem {xs : List V} {i : Int} (h0 : 0 ≤ i) (h1 : i < xs.length) : ∃ v ∈ xs, atI xs i = some v := by
  have hl : i.toNat < xs.length := by omega
  refine ⟨xs[i.toNat], List.getElem_mem hl, ?_⟩
  unfold atI ixN
  rw [if_pos h0, if_pos h1, Option.bind_some, List.getElem?_eq_getElem hl]
theorem atI_int {ns : List Int} {i : Int} (h0 : 0 ≤ i) (h1 : i < (ns.map V.int).length) : ∃ n : Int, atI (ns.map V.int) i = some (.int n) := by
  obtain ⟨v, hv, e⟩ := atI_mem h0 h1
  obtain ⟨n, _, rfl⟩ := List.mem_map.mp hv
  exact ⟨n, e⟩
theorem cutV_mem {xs : List V} {lo hi : Option Int} {v : V} (h : v ∈ cutV xs lo hi) : v ∈ xs := List.mem_of_mem_drop (List.mem_of_mem_take h)
theorem log2_small {n : Nat} (h : n < 2 ^ 9000) (h0 : 0 < n) : n.log2 < 9000 := (Nat.log2_lt (by omega)).mpr h

def sp_law_seed (K : PySem.W.Frag) : Sp := fun vs H Q _ => ∃ (a : Addr) (ns : List Int) (n : Int), vs = [.ref a, .int n] ∧ SqL K H a (ns.map V.int) ∧ 0 ≤ n ∧
  ∀ (p : Addr) (H' : Hp), Same H H' → H p = none → Bag H' p → Q (.ref p) H'
def sp_law_take (K : PySem.W.Frag) : Sp := fun vs H Q _ => ∃ (b : Addr) (many : Int), vs = [.ref b, .int many] ∧ Bag H b ∧ 0 < many ∧ many < 2 ^ 200 ∧
  ∀ (d : Int) (H' : Hp), 0 ≤ d → d < many → Sx [b] H H' → Bag H' b → Q (.int d) H'
def sp_law_of (K : PySem.W.Frag) : Sp := fun vs H Q _ => ∃ (b p : Addr) (xs : List V), vs = [.ref b, .ref p] ∧ Bag H b ∧ H p = some (.lst xs) ∧ p ≠ b ∧ 0 < xs.length ∧ xs.length < 2 ^ 60 ∧
  ∀ (v : V) (H' : Hp), v ∈ xs → Sx [b] H H' → Bag H' b → Q v H'

def digs : Str := "0123456789"
def isNum (t : Str) : Bool := !(decide (t = "") || decide (3 < (t.length : Int))) && (t.cps.toList.all fun c => decide (c ∈ digs.cps.toList)) && (decide (t = "0") || !decide ((⟨#[t.cps.toList.headD 0]⟩ : Str) = "0"))
theorem atI_zero {l : List Nat} (h : l ≠ []) : atI l 0 = some (l.headD 0) := by
  cases l with
  | nil => exact absurd rfl h
  | cons a r =>
    have h1 : (0 : Int) < ((a :: r).length : Int) := by rw [List.length_cons]; omega
    unfold atI ixN
    rw [if_pos (Int.le_refl 0), if_pos h1]
    rfl
theorem all_take_succ {l : List Nat} {i : Nat} {c : Nat} {f : Nat → Bool} (h : l[i]? = some c) (hc : f c = true) (ha : (l.take i).all f = true) : (l.take (i + 1)).all f = true := by
  rw [List.take_succ, h, List.all_append, ha]
  simp [hc]
theorem all_no {l : List Nat} {i : Nat} {c : Nat} {f : Nat → Bool} (h : l[i]? = some c) (hc : f c = false) : l.all f = false := by
  rw [List.all_eq_false]
  exact ⟨c, List.mem_of_getElem? h, by simp [hc]⟩
theorem nil_of_ne {t : Str} (h : ¬ t = "") : t.cps.toList ≠ [] := fun z => h (str_eq z)

def sp_is_number (K : PySem.W.Frag) : Sp := fun vs H Q _ => ∃ t : Str, vs = [.str t] ∧ t.length ≤ 10000 ∧ Q (.bl (isNum t)) H

inductive Tm where
  | num (n : Int) | nam (s : Str)
def Tm.v : Tm → V
  | .num n => .int n
  | .nam s => .str s
abbrev Terms := List (Int × Tm)
def numVal (t : Str) : Int := (PySem.intText? t).getD 0
def termOf (names : List Str) (t : Str) : Option Tm := if t ∈ names then some (.nam t) else if isNum t = true then some (.num (numVal t)) else none
def signOf (t : Str) : Int := if t = "+" then 1 else -1
def isOp (t : Str) : Bool := decide (t = "+" ∨ t = "-")
/-- read_sum: the terms (none where no sum stands) and the index behind -/
def readS (names toks : List Str) : Nat → Nat → Int → Terms → Option Terms × Nat
  | 0, at_, _, _ => (none, at_)
  | n + 1, at_, f, acc => match termOf names (toks.getD at_ "") with
    | none => (none, at_)
    | some t => if toks.length ≤ at_ + 1 ∨ isOp (toks.getD (at_ + 1) "") = false ∨ acc.length + 1 = 5 then (some (acc ++ [(f, t)]), at_ + 1)
      else readS names toks n (at_ + 2) (signOf (toks.getD (at_ + 1) "")) (acc ++ [(f, t)])
def TermsAt (H : Hp) (l : Addr) (ts : Terms) : Prop := ∃ as : List Addr, H l = some (.lst (as.map V.ref)) ∧ Paired (fun (a : Addr) (t : Int × Tm) => H a = some (.tup [.int t.1, t.2.v])) as ts
theorem paired_snoc {α β : Type} {F : α → β → Prop} : ∀ {xs : List α} {ys : List β} {x : α} {y : β}, Paired F xs ys → F x y → Paired F (xs ++ [x]) (ys ++ [y])
  | _, _, _, _, .nil, h => .cons h .nil
  | _, _, _, _, .cons r t, h => .cons r (paired_snoc t h)
theorem TermsAt.nil {H : Hp} {l : Addr} : TermsAt (upd H l (.lst [])) l [] := ⟨[], upd_same, .nil⟩
theorem TermsAt.same {H H' : Hp} {l : Addr} {ts : Terms} (h : TermsAt H l ts) (s : Same H H') : TermsAt H' l ts := by
  obtain ⟨as, h1, h2⟩ := h
  exact ⟨as, s _ _ h1, Paired.mapP h2 fun a t e => s _ _ e⟩
theorem TermsAt.snoc {H : Hp} {l a : Addr} {as : List Addr} {ts : Terms} {f : Int} {t : Tm} (h1 : H l = some (.lst (as.map V.ref))) (h2 : Paired (fun (a : Addr) (t : Int × Tm) => H a = some (.tup [.int t.1, t.2.v])) as ts) (ha : H a = none) :
    TermsAt (upd (upd H a (.tup [.int f, t.v])) l (.lst (as.map V.ref ++ [.ref a]))) l (ts ++ [(f, t)]) := by
  have nal : a ≠ l := (ne_of_none h1 ha).symm
  refine ⟨as ++ [a], by rw [upd_same, List.map_append]; rfl, paired_snoc (Paired.mapP h2 fun b u e => ?_) ?_⟩
  · have nbl : b ≠ l := fun z => by rw [z, h1] at e; cases e
    rw [upd_ne nbl, upd_ne (ne_of_none e ha)]; exact e
  · rw [upd_ne nal, upd_same]
theorem digs_list : digs.cps.toList = [48, 49, 50, 51, 52, 53, 54, 55, 56, 57] := by decide +kernel
theorem num1 : ∀ a ∈ [48, 49, 50, 51, 52, 53, 54, 55, 56, 57], (PySem.intText? ⟨#[a]⟩).isSome = true := by decide +kernel
theorem num2 : ∀ a ∈ [48, 49, 50, 51, 52, 53, 54, 55, 56, 57], ∀ b ∈ [48, 49, 50, 51, 52, 53, 54, 55, 56, 57], (PySem.intText? ⟨#[a, b]⟩).isSome = true := by decide +kernel
theorem num3 : ∀ a ∈ [48, 49, 50, 51, 52, 53, 54, 55, 56, 57], ∀ b ∈ [48, 49, 50, 51, 52, 53, 54, 55, 56, 57], ∀ c ∈ [48, 49, 50, 51, 52, 53, 54, 55, 56, 57], (PySem.intText? ⟨#[a, b, c]⟩).isSome = true := by decide +kernel
theorem isNum_parts {t : Str} (h : isNum t = true) : t.cps.toList ≠ [] ∧ t.length ≤ 3 ∧ ∀ c ∈ t.cps.toList, c ∈ digs.cps.toList := by
  unfold isNum at h
  simp only [Bool.and_eq_true, Bool.not_eq_true', Bool.or_eq_false_iff, decide_eq_false_iff_not, List.all_eq_true, decide_eq_true_eq] at h
  obtain ⟨⟨⟨h1, h2⟩, h3⟩, _⟩ := h
  exact ⟨nil_of_ne h1, by omega, h3⟩
theorem isNum_int {t : Str} (h : isNum t = true) : PySem.intText? t = some (numVal t) := by
  obtain ⟨h1, h2, h3⟩ := isNum_parts h
  rw [digs_list] at h3
  have hs : (PySem.intText? t).isSome = true := by
    have e : t = ⟨t.cps.toList.toArray⟩ := str_eq rfl
    have hl : t.cps.toList.length ≤ 3 := by simpa [Str.length] using h2
    generalize t.cps.toList = l at *
    subst e
    match l, h1, hl, h3 with
    | [a], _, _, h3 => exact num1 a (h3 a (by simp))
    | [a, b], _, _, h3 => exact num2 a (h3 a (by simp)) b (h3 b (by simp))
    | [a, b, c], _, _, h3 => exact num3 a (h3 a (by simp)) b (h3 b (by simp)) c (h3 c (by simp))
    | _ :: _ :: _ :: _ :: _, _, hl, _ => exact absurd hl (by simp)
  obtain ⟨n, hn⟩ := Option.isSome_iff_exists.mp hs
  unfold numVal
  rw [hn]; rfl
theorem inV_ops {d : Str} : inV (.str d) [.str "+", .str "-"] = isOp d := by
  show inV (.str d) ((["+", "-"] : List Str).map V.str) = _
  rw [inV_str]
  unfold isOp
  simp
/-- how read_sum's answer lies at t -/
def RsAt (H H' : Hp) (t : Addr) (r : Option Terms × Nat) : Prop := match r with
  | (none, n) => H' t = some (.tup [.non, .int (n : Nat)])
  | (some ts, n) => ∃ l, H l = none ∧ H' t = some (.tup [.ref l, .int (n : Nat)]) ∧ TermsAt H' l ts

def sp_read_sum (K : PySem.W.Frag) : Sp := fun vs H Q _ => ∃ (p q : Addr) (toks names : List Str) (s : Nat), vs = [.ref p, .int (s : Nat), .ref q] ∧ SqL K H p (toks.map V.str) ∧ SqL K H q (names.map V.str) ∧ (∀ t ∈ toks, t.length ≤ 10000) ∧
  ∀ (t : Addr) (H' : Hp), Same H H' → H t = none → RsAt H H' t (readS names toks 5 s 1 []) → Q (.ref t) H'

theorem readS_le {names toks : List Str} (hn : ("" : Str) ∉ names) : ∀ (m at_ : Nat) (f : Int) (acc ts : Terms) (n : Nat), readS names toks m at_ f acc = (some ts, n) → n ≤ toks.length
  | 0, at_, f, acc, ts, n, h => by
    have h : (none, at_) = (some ts, n) := h
    cases h
  | m + 1, at_, f, acc, ts, n, h => by
    have hlt : at_ < toks.length := by
      by_cases q : at_ < toks.length
      · exact q
      · exfalso
        unfold readS at h
        have e : toks.getD at_ "" = "" := by rw [List.getD_eq_getElem?_getD, List.getElem?_eq_none (by omega)]; rfl
        have e2 : termOf names "" = none := by
          unfold termOf
          rw [if_neg hn, if_neg (by decide +kernel)]
        rw [e, e2] at h
        cases h
    unfold readS at h
    split at h
    · cases h
    · split at h
      · cases h
        omega
      · exact readS_le hn m _ _ _ ts n h
def SumAt (K : PySem.W.Frag) (H : Hp) (x : Addr) (ts : Terms) (shown : Str) : Prop := ∃ dx l, H x = some (.ins (He.ga K "Sum") dx [("terms", .ref l), ("shown", .str shown)]) ∧ TermsAt H l ts
theorem lens_words {t a : Str} (h : a ∈ Txt.words t) : a.length ≤ t.length := PyProof.Rows.word_short h
theorem put_shown {l : Addr} {z : Str} : putF "shown" (.str z) (putF "terms" (.ref l) []) = ([("terms", V.ref l), ("shown", .str z)] : List (Str × V)) := by
  have e : ¬ (("terms" : Str) = "shown") := by decide +kernel
  show (if ("terms" : Str) = "shown" then _ else (("terms" : Str), V.ref l) :: putF "shown" (.str z) []) = ([("terms", V.ref l), ("shown", .str z)] : List (Str × V))
  rw [if_neg e]
  rfl

def sp_Sum___init__ (K : PySem.W.Frag) : Sp := fun vs H Q E => ∃ (x dx q : Addr) (text : Str) (names : List Str), vs = [.ref x, .str text, .ref q] ∧ H x = some (.ins (He.ga K "Sum") dx []) ∧ SqL K H q (names.map V.str) ∧ ("" : Str) ∉ names ∧ text.length ≤ 10000 ∧
  (∀ n, ((readS names (Txt.words text) 5 0 1 []).1 = none ∨ n < (Txt.words text).length) → (readS names (Txt.words text) 5 0 1 []).2 = n → ∀ d H', Same H H' → H d = none → H' d = some (.xd [("at", .int (n : Nat))]) → E (.ref (He.ga K "BadSum")) (some d) H') ∧
  (∀ ts H', readS names (Txt.words text) 5 0 1 [] = (some ts, (Txt.words text).length) → Sx [x] H H' → SumAt K H' x ts (Txt.join " " (Txt.words text)) → Q .non H')

def abc : Str := "abcdefghijklmnopqrstuvwxyz"
def abc14 : Str := "bcdfjkmpquwxyz"
theorem abc_at : ∀ d : Nat, d < 26 → abc.cps.toList[d]? = some (97 + d) := by decide +kernel
theorem abc14_len : abc14.cps.toList.length = 14 := by decide +kernel
theorem abc14_at : ∀ d : Nat, d < 14 → ∃ c, abc14.cps.toList[d]? = some c ∧ 97 ≤ c ∧ c ≤ 122 := by
  have h : ∀ d : Nat, d < 14 → (abc14.cps.toList[d]?).any (fun c => decide (97 ≤ c ∧ c ≤ 122)) = true := by decide +kernel
  intro d hd
  have := h d hd
  cases e : abc14.cps.toList[d]? with
  | none => rw [e] at this; cases this
  | some c => rw [e] at this; exact ⟨c, rfl, by simpa using this⟩
theorem atI_abc {d : Int} (h0 : 0 ≤ d) (h1 : d < 26) : atI abc.cps.toList d = some (97 + d.toNat) := by
  have := atI_of (abc_at d.toNat (by omega))
  rwa [show ((d.toNat : Nat) : Int) = d by omega] at this
/-- the i-th name, its first letter by f -/
def Wd (f i : Nat) (t : Str) : Prop := ∃ c r, t.cps.toList = c :: r ∧ abc14.cps.toList[(f + i) % 14]? = some c ∧ r.length ≤ 7 ∧ ∀ d ∈ r, 97 ≤ d ∧ d ≤ 122
def NamesOk (f : Nat) (names : List Str) : Prop := ∀ i t, names[i]? = some t → Wd f i t
theorem Wd.tk {f i : Nat} {t : Str} (h : Wd f i t) : Tk t := by
  obtain ⟨c, r, e, hc, _, hr⟩ := h
  refine ⟨by rw [e]; exact List.cons_ne_nil _ _, fun d hd => ?_⟩
  rw [e] at hd
  rcases List.mem_cons.mp hd with rfl | hd
  · obtain ⟨c', h1, h2⟩ := abc14_at ((f + i) % 14) (Nat.mod_lt _ (by decide))
    rw [hc] at h1; cases h1; omega
  · have := hr d hd; omega
theorem Wd.len {f i : Nat} {t : Str} (h : Wd f i t) : t.length ≤ 8 := by
  obtain ⟨c, r, e, _, hl, _⟩ := h
  have : t.length = t.cps.toList.length := by simp [Str.length]
  rw [this, e, List.length_cons]; omega
theorem NamesOk.mem {f : Nat} {names : List Str} (h : NamesOk f names) {t : Str} (ht : t ∈ names) : ∃ i, Wd f i t := by
  obtain ⟨i, hi, e⟩ := List.mem_iff_getElem.mp ht
  exact ⟨i, h i t (by rw [List.getElem?_eq_getElem hi, e])⟩
theorem NamesOk.tk {f : Nat} {names : List Str} (h : NamesOk f names) {t : Str} (ht : t ∈ names) : Tk t := by
  obtain ⟨i, hi⟩ := h.mem ht
  exact hi.tk
theorem NamesOk.len {f : Nat} {names : List Str} (h : NamesOk f names) {t : Str} (ht : t ∈ names) : t.length ≤ 8 := by
  obtain ⟨i, hi⟩ := h.mem ht
  exact hi.len
theorem NamesOk.nil (f : Nat) : NamesOk f [] := fun i t h => by simp at h
theorem NamesOk.snoc {f : Nat} {names : List Str} {t : Str} (h : NamesOk f names) (ht : Wd f names.length t) : NamesOk f (names ++ [t]) := fun i u hu => by
  rcases Nat.lt_trichotomy i names.length with q | q | q
  · rw [List.getElem?_append_left q] at hu; exact h i u hu
  · subst q
    rw [List.getElem?_append_right (Nat.le_refl _), Nat.sub_self] at hu
    cases hu
    exact ht
  · rw [List.getElem?_append_right (by omega)] at hu
    rw [List.getElem?_eq_none (by simp; omega)] at hu
    cases hu
theorem tk_ne {t : Str} (h : Tk t) : t ≠ "" := fun z => h.1 (by rw [z]; rfl)
theorem NamesOk.no_empty {f : Nat} {names : List Str} (h : NamesOk f names) : ("" : Str) ∉ names := fun z => tk_ne (h.tk z) rfl
/-- small letters, one a text -/
def Lets (ls : List Str) : Prop := ∀ t ∈ ls, ∃ c, t.cps.toList = [c] ∧ 97 ≤ c ∧ c ≤ 122
theorem lets_join : ∀ {ls : List Str}, Lets ls → (Str.join "" ls).cps.toList.length = ls.length ∧ ∀ c ∈ (Str.join "" ls).cps.toList, 97 ≤ c ∧ c ≤ 122
  | [], _ => ⟨rfl, fun c hc => by cases hc⟩
  | [x], h => by
    obtain ⟨c, e, hc⟩ := h x (List.mem_cons_self ..)
    show x.cps.toList.length = 1 ∧ ∀ c ∈ x.cps.toList, _
    rw [e]
    exact ⟨rfl, fun d hd => by simp at hd; subst hd; exact hc⟩
  | x :: y :: r, h => by
    obtain ⟨c, e, hc⟩ := h x (List.mem_cons_self ..)
    obtain ⟨h1, h2⟩ := lets_join (ls := y :: r) fun t ht => h t (List.mem_cons_of_mem _ ht)
    have e2 : (Str.join "" (x :: y :: r)).cps.toList = c :: (Str.join "" (y :: r)).cps.toList := by
      rw [join_cons2, Str.cps_append, Str.cps_append, Array.toList_append, Array.toList_append, e]
      rfl
    rw [e2]
    refine ⟨by rw [List.length_cons, h1]; rfl, fun d hd => ?_⟩
    rcases List.mem_cons.mp hd with rfl | hd
    · exact hc
    · exact h2 d hd
theorem lets_len {ls : List Str} (h : Lets ls) : ∀ t ∈ ls, t.length ≤ 1 := fun t ht => by
  obtain ⟨c, e, _⟩ := h t ht
  have : t.length = t.cps.toList.length := by simp [Str.length]
  rw [this, e]; exact Nat.le_refl _
theorem lets_snoc {ls : List Str} {c : Nat} (h : Lets ls) (h1 : 97 ≤ c) (h2 : c ≤ 122) : Lets (ls ++ [⟨#[c]⟩]) := fun t ht => by
  rcases List.mem_append.mp ht with ht | ht
  · exact h t ht
  · simp at ht; subst ht; exact ⟨c, rfl, h1, h2⟩
theorem bagNe {H : Hp} {b p : Addr} {o : HO} (hb : Bag H b) (hp : H p = some o) (h : ∀ x y, o ≠ .lst [.int x, .int y]) : p ≠ b := by
  rintro rfl
  obtain ⟨x, y, e⟩ := hb
  rw [hp] at e
  cases e
  exact h x y rfl

def sp_law_names (K : PySem.W.Frag) : Sp := fun vs H Q _ => ∃ (b : Addr) (many : Nat), vs = [.ref b, .int (many : Nat)] ∧ Bag H b ∧ many < 1000 ∧
  ∀ (p : Addr) (f : Nat) (names : List Str) (H' : Hp), Sx [b] H H' → Bag H' b → H p = none → H' p = some (.lst (names.map V.str)) → names.length = many → NamesOk f names → Q (.ref p) H'

def notDigs (l : List Nat) : List Nat := l.filter fun c => !decide (c ∈ digs.cps.toList)
theorem sok_single {l : List Nat} (h : ∀ c ∈ l, c ≤ 127) : Sok (l.map fun c => (⟨#[c]⟩ : Str)) := fun x hx => by
  obtain ⟨c, hc, rfl⟩ := List.mem_map.mp hx
  exact sok_asc fun d hd => by simp at hd; subst hd; exact h _ hc
theorem filter_take {l : List Nat} {i c : Nat} {f : Nat → Bool} (h : l[i]? = some c) : (l.take (i + 1)).filter f = (l.take i).filter f ++ (if f c = true then [c] else []) := by
  rw [List.take_succ, h, List.filter_append]
  congr 1
  simp only [Option.toList_some]
  cases e : f c <;> simp [e]
theorem notDigs_nil {t : Str} : notDigs t.cps.toList = [] ↔ (t.cps.toList.all fun c => decide (c ∈ digs.cps.toList)) = true := by
  unfold notDigs
  rw [List.filter_eq_nil_iff, List.all_eq_true]
  simp

def sp_law_is_number (K : PySem.W.Frag) : Sp := fun vs H Q _ => ∃ t : Str, vs = [.str t] ∧ t.length ≤ 10000 ∧ (∀ c ∈ t.cps.toList, c ≤ 127) ∧ ∀ H', Same H H' → Q (.bl (isNum t)) H'

/-! the law's own reading of a row of tokens -/
def okAt (names : List Str) (i : Nat) (t : Str) : Bool := if i % 2 = 0 then decide (t ∈ names) || isNum t else isOp t && !decide (i = 9)
def firstBad (names : List Str) : Nat → List Str → Option Nat
  | _, [] => none
  | i, t :: r => if okAt names i t = true then firstBad names (i + 1) r else some i
def wrongL (names toks : List Str) : Int := match firstBad names 0 toks with
  | some i => (i : Nat)
  | none => if toks.length % 2 = 0 then (toks.length : Nat) else -1
def toldOf (names toks : List Str) : Int := match readS names toks 5 0 1 [] with
  | (some _, n) => if n < toks.length then (n : Nat) else -1
  | (none, n) => (n : Nat)
theorem bad_drop {names toks : List Str} {i : Nat} {t : Str} (h : toks[i]? = some t) : firstBad names i (toks.drop i) = if okAt names i t = true then firstBad names (i + 1) (toks.drop (i + 1)) else some i := by
  have hi : i < toks.length := (List.getElem?_eq_some_iff.mp h).1
  rw [List.drop_eq_getElem_cons hi]
  have e : toks[i] = t := by rw [List.getElem?_eq_getElem hi] at h; exact Option.some.inj h
  rw [e]
  rfl
theorem bad_end {names toks : List Str} {i : Nat} (h : toks.length ≤ i) : firstBad names i (toks.drop i) = none := by
  rw [List.drop_eq_nil_of_le h]
  rfl
theorem term_some {names : List Str} {t : Str} (h : (decide (t ∈ names) || isNum t) = true) : ∃ m, termOf names t = some m := by
  unfold termOf
  by_cases q : t ∈ names
  · rw [if_pos q]; exact ⟨_, rfl⟩
  · rw [if_neg q]
    rw [decide_eq_false q, Bool.false_or] at h
    rw [if_pos h]; exact ⟨_, rfl⟩
theorem term_none {names : List Str} {t : Str} (h : (decide (t ∈ names) || isNum t) = false) : termOf names t = none := by
  obtain ⟨h1, h2⟩ := Bool.or_eq_false_iff.mp h
  unfold termOf
  rw [if_neg (of_decide_eq_false h1), if_neg (by rw [h2]; exact Bool.false_ne_true)]
def told2 (toks : List Str) (r : Option Terms × Nat) : Int := match r with
  | (some _, n) => if n < toks.length then (n : Nat) else -1
  | (none, n) => (n : Nat)
def wrong2 (toks : List Str) (r : Option Nat) : Int := match r with
  | some i => (i : Nat)
  | none => if toks.length % 2 = 0 then (toks.length : Nat) else -1
theorem told_step {names toks : List Str} (hn : ("" : Str) ∉ names) : ∀ (m at_ : Nat) (f : Int) (acc : Terms), acc.length + m = 5 → at_ = 2 * acc.length → 0 < m → at_ ≤ toks.length →
    told2 toks (readS names toks m at_ f acc) = wrong2 toks (firstBad names at_ (toks.drop at_))
  | 0, _, _, _, _, _, h, _ => absurd h (Nat.lt_irrefl 0)
  | m + 1, at_, f, acc, h1, h2, _, h4 => by
    unfold readS
    by_cases hlt : at_ < toks.length
    · obtain ⟨t, ht⟩ : ∃ t, toks[at_]? = some t := ⟨_, List.getElem?_eq_getElem hlt⟩
      have eg : toks.getD at_ "" = t := by rw [List.getD_eq_getElem?_getD, ht]; rfl
      rw [eg, bad_drop ht]
      have ev : at_ % 2 = 0 := by omega
      have eo : okAt names at_ t = (decide (t ∈ names) || isNum t) := by unfold okAt; rw [if_pos ev]
      cases q : (decide (t ∈ names) || isNum t) with
      | false =>
        rw [eo, q, term_none q, if_neg Bool.false_ne_true]
        rfl
      | true =>
        obtain ⟨mm, em⟩ := term_some q
        rw [eo, q, em, if_pos rfl]
        dsimp only
        by_cases hlt2 : at_ + 1 < toks.length
        · obtain ⟨d, hd⟩ : ∃ d, toks[at_ + 1]? = some d := ⟨_, List.getElem?_eq_getElem hlt2⟩
          have eg2 : toks.getD (at_ + 1) "" = d := by rw [List.getD_eq_getElem?_getD, hd]; rfl
          rw [eg2, bad_drop hd]
          have od : ¬ (at_ + 1) % 2 = 0 := by omega
          have eo2 : okAt names (at_ + 1) d = (isOp d && !decide (at_ + 1 = 9)) := by unfold okAt; rw [if_neg od]
          by_cases q2 : isOp d = true
          · by_cases q3 : acc.length + 1 = 5
            · rw [if_pos (.inr (.inr q3)), eo2, q2, decide_eq_true (by omega : at_ + 1 = 9)]
              show (if at_ + 1 < toks.length then _ else _) = _
              rw [if_pos hlt2]
              rfl
            · rw [if_neg (by rintro (z | z | z) <;> first | omega | (rw [q2] at z; cases z)), eo2, q2, decide_eq_false (by omega : ¬ at_ + 1 = 9)]
              rw [if_pos (show (true && !false) = true from rfl)]
              exact told_step hn m (at_ + 2) _ _ (by simp; omega) (by simp; omega) (by omega) (by omega)
          · have q2' : isOp d = false := by simpa using q2
            rw [if_pos (.inr (.inl q2')), eo2, q2']
            show (if at_ + 1 < toks.length then _ else _) = _
            rw [if_pos hlt2]
            rfl
        · rw [if_pos (.inl (by omega)), bad_end (by omega)]
          show (if at_ + 1 < toks.length then _ else (-1 : Int)) = (if toks.length % 2 = 0 then _ else -1)
          rw [if_neg hlt2, if_neg (by omega)]
    · have eg : toks.getD at_ "" = "" := by rw [List.getD_eq_getElem?_getD, List.getElem?_eq_none (by omega)]; rfl
      rw [eg, term_none (by rw [decide_eq_false hn]; decide +kernel), bad_end (by omega)]
      show ((at_ : Nat) : Int) = (if toks.length % 2 = 0 then ((toks.length : Nat) : Int) else -1)
      rw [if_pos (by omega)]
      omega
theorem told_wrong {names toks : List Str} (hn : ("" : Str) ∉ names) : toldOf names toks = wrongL names toks := told_step hn 5 0 1 [] rfl rfl (by decide) (Nat.zero_le _)
theorem bad_some {names : List Str} : ∀ (toks : List Str) (i b : Nat), firstBad names i toks = some b → i ≤ b ∧ b < i + toks.length ∧ ∀ j, i + j < b → firstBad names i (toks.take (j + 1)) = none
  | [], _, _, h => by cases h
  | t :: r, i, b, h => by
    have h : (if okAt names i t = true then firstBad names (i + 1) r else some i) = some b := h
    by_cases q : okAt names i t = true
    · rw [if_pos q] at h
      obtain ⟨h1, h2, h3⟩ := bad_some r (i + 1) b h
      refine ⟨by omega, by rw [List.length_cons]; omega, fun j hj => ?_⟩
      show (if okAt names i t = true then firstBad names (i + 1) (r.take j) else some i) = none
      rw [if_pos q]
      cases j with
      | zero => rfl
      | succ j => exact h3 j (by omega)
    · rw [if_neg q] at h
      cases h
      exact ⟨Nat.le_refl _, by rw [List.length_cons]; omega, fun j hj => by omega⟩
theorem bad_take {names : List Str} : ∀ (toks : List Str) (i k : Nat), firstBad names i toks = none → firstBad names i (toks.take k) = none
  | [], _, _, h => by simpa using h
  | t :: r, i, 0, _ => rfl
  | t :: r, i, k + 1, h => by
    have h : (if okAt names i t = true then firstBad names (i + 1) r else some i) = none := h
    by_cases q : okAt names i t = true
    · rw [if_pos q] at h
      show (if okAt names i t = true then firstBad names (i + 1) (r.take k) else some i) = none
      rw [if_pos q]
      exact bad_take r (i + 1) k h
    · rw [if_neg q] at h
      cases h
/-- the beginning ahead of the wrong token is a sum -/
theorem wrong_begin {names toks : List Str} (h : 0 < wrongL names toks) : wrongL names (toks.take (wrongL names toks - 1 + wrongL names toks % 2).toNat) = -1 := by
  have key : ∀ d : Nat, 0 < d → d ≤ toks.length → (∀ k, k < d → firstBad names 0 (toks.take (k + 1)) = none) → ∀ z : Int, z = (d : Nat) → wrongL names (toks.take (z - 1 + z % 2).toNat) = -1 := by
    intro d d0 dl hd z hz
    subst hz
    have e : (((d : Nat) : Int) - 1 + ((d : Nat) : Int) % 2).toNat = (d - 1 + d % 2 - 1) + 1 := by omega
    rw [e]
    have hb := hd (d - 1 + d % 2 - 1) (by omega)
    have hlen : (toks.take (d - 1 + d % 2 - 1 + 1)).length = d - 1 + d % 2 := by rw [List.length_take]; omega
    show wrong2 (toks.take (d - 1 + d % 2 - 1 + 1)) (firstBad names 0 (toks.take (d - 1 + d % 2 - 1 + 1))) = -1
    rw [hb]
    show (if (toks.take (d - 1 + d % 2 - 1 + 1)).length % 2 = 0 then _ else (-1 : Int)) = -1
    rw [hlen, if_neg (by omega)]
  cases q : firstBad names 0 toks with
  | some b =>
    obtain ⟨h1, h2, h3⟩ := bad_some toks 0 b q
    have e : wrongL names toks = (b : Nat) := by unfold wrongL; rw [q]
    have b0 : 0 < b := by rw [e] at h; omega
    exact key b b0 (by omega) (fun k hk => h3 k (by omega)) _ e
  | none =>
    by_cases ev : toks.length % 2 = 0
    · have e : wrongL names toks = (toks.length : Nat) := by unfold wrongL; rw [q]; exact if_pos ev
      have b0 : 0 < toks.length := by rw [e] at h; omega
      exact key toks.length b0 (Nat.le_refl _) (fun k _ => bad_take toks 0 (k + 1) q) _ e
    · exfalso
      have e : wrongL names toks = -1 := by unfold wrongL; rw [q]; exact if_neg ev
      rw [e] at h
      omega


def Asc (t : Str) : Prop := t.length ≤ 40 ∧ ∀ c ∈ t.cps.toList, c ≤ 127
theorem tk_asc {t : Str} (h : Tk t) (hl : t.length ≤ 40) : Asc t := ⟨hl, fun c hc => by have := h.2 c hc; omega⟩
def TokOk (t : Str) : Prop := Tk t ∧ t.length ≤ 20
theorem TokOk.asc {t : Str} (h : TokOk t) : Asc t := tk_asc h.1 (by have := h.2; omega)

def sp_law_wrong (K : PySem.W.Frag) : Sp := fun vs H Q _ => ∃ (p q : Addr) (toks names : List Str), vs = [.ref p, .ref q] ∧ SqL K H p (toks.map V.str) ∧ SqL K H q (names.map V.str) ∧ (∀ t ∈ toks, Asc t) ∧
  ∀ H', Same H H' → Q (.int (wrongL names toks)) H'

def tokB (t : Str) : Bool := !t.cps.toList.isEmpty && (t.cps.toList.all (fun c => decide (33 ≤ c) && decide (c ≤ 126)) && decide (t.length ≤ 20))
theorem tok_of {t : Str} (h : tokB t = true) : TokOk t := by
  unfold tokB at h
  simp only [Bool.and_eq_true, Bool.not_eq_true', List.all_eq_true, decide_eq_true_eq] at h
  refine ⟨⟨fun z => ?_, h.2.1⟩, h.2.2⟩
  rw [z] at h
  exact absurd h.1 (by decide)
theorem tok_num : ∀ d : Nat, d < 1000 → tokB (Str.ofString (toString (d : Int))) = true := by decide +kernel
theorem tok_str {d : Int} (h0 : 0 ≤ d) (h1 : d < 1000) : TokOk (toString d : String) := by
  have := tok_num d.toNat (by omega)
  rw [show ((d.toNat : Nat) : Int) = d by omega] at this
  exact tok_of this
theorem Wd.tok {f i : Nat} {t : Str} (h : Wd f i t) : TokOk t := ⟨h.tk, by have := h.len; omega⟩
theorem Wd.tokA {f i : Nat} {t : Str} (h : Wd f i t) : TokOk (t ++ "a") := by
  have h1 := h.tk
  have h2 := h.len
  refine ⟨⟨?_, fun c hc => ?_⟩, by rw [Str.length_append, show (("a" : Str)).length = 1 from rfl]; omega⟩
  · rw [Str.cps_append, Array.toList_append]
    intro z
    exact h1.1 (List.append_eq_nil_iff.mp z).1
  · rw [Str.cps_append, Array.toList_append] at hc
    rcases List.mem_append.mp hc with hc | hc
    · exact h1.2 c hc
    · have : c = 97 := by simpa using (show c ∈ [97] from hc)
      omega

def sp_law_tokens (K : PySem.W.Frag) : Sp := fun vs H Q _ => ∃ (b q : Addr) (f : Nat) (names : List Str), vs = [.ref b, .ref q] ∧ Bag H b ∧ H q = some (.lst (names.map V.str)) ∧ q ≠ b ∧ names ≠ [] ∧ names.length ≤ 100 ∧ NamesOk f names ∧
  ∀ (p : Addr) (toks : List Str) (H' : Hp), Sx [b] H H' → Bag H' b → H p = none → H' p = some (.lst (toks.map V.str)) → toks.length ≤ 12 → (∀ t ∈ toks, TokOk t) → Q (.ref p) H'
def sp_law_told (K : PySem.W.Frag) : Sp := fun vs H Q _ => ∃ (q : Addr) (text : Str) (names : List Str), vs = [.str text, .ref q] ∧ SqL K H q (names.map V.str) ∧ ("" : Str) ∉ names ∧ text.length ≤ 10000 ∧
  ∀ H', Same H H' → Q (.int (toldOf names (Txt.words text))) H'

theorem Sx.drop1 {b : Addr} {H H1 H2 : Hp} (s : Same H H1) (n : H b = none) (t : Sx [b] H1 H2) : Same H H2 := fun a o e => t a o (by simpa using ne_of_none e n) (s a o e)
theorem join_txt (a : Str) (xs : List Str) : Txt.join a xs = Str.join a xs := StrLaws.glued_eq_join _ _
theorem cutV_to {xs : List Str} {n : Int} (h0 : 0 ≤ n) : cutV (xs.map V.str) none (some n) = (xs.take n.toNat).map V.str := by
  unfold cutV
  show (List.drop 0 _).take ((if n < 0 then _ else min n.toNat _) - 0) = _
  rw [List.drop_zero, if_neg (by omega), List.map_take, Nat.sub_zero]
  rcases Nat.le_total n.toNat (xs.map V.str).length with h | h
  · rw [Nat.min_eq_left h]
  · rw [Nat.min_eq_right h, List.take_length, List.take_of_length_le h]
theorem bl_of {s : Str} {xs : List V} (h : V.str s ∈ xs) (hx : ∀ v ∈ xs, ∃ t, v = .str t ∧ Bl t ∧ t.length ≤ 2) : Bl s ∧ s.length ≤ 2 := by
  obtain ⟨t, e, h1, h2⟩ := hx _ h
  cases e
  exact ⟨h1, h2⟩

def sp_law (K : PySem.W.Frag) : Sp := fun vs H Q _ => ∃ (a : Addr) (ns : List Int), vs = [.ref a] ∧ SqL K H a (ns.map V.int) ∧ ns.length ≤ 63 ∧ (∀ z ∈ ns, Builtin.Int.intBits z ≤ 1048576) ∧ ∀ H', Q (.bl true) H'
section
variable {P : Program} {w : World} {K : PySem.W.Frag} {mg : Str → Option Value} {base : Heap}
theorem ok_BadSum___init__ {f : Addr} {fd : FuncData} (F : FnP K "__init__" "BadSum.__init__" s_BadSum___init__ f fd) (o : OexC K (He.ga K "BadSum")) (no : PySem.W.findIn K (.ref (He.ga K "BadSum")) "at" = some none) : FnOk P w K mg base (L2.CX P w) 1 f fd ["self", "at"] (sp_xi (He.ga K "BadSum") "at") := by
  refine F.ok sc_BadSum___init__ (fun vs H Q E h => ?_) (fun cdv A outer s H vs Q E hr h => ?_)
  · obtain ⟨a, v, rfl, _⟩ := h
    rfl
  · obtain ⟨a, v, rfl, ha, k⟩ := h
    exact ⟨_, pss_one (ps_ost (pv 0) (pv 1)), _, rfl, _, rfl, a, _, rfl, o, no, .inl ⟨ha, fun dx h1 h2 => k dx h1 h2⟩⟩
end
section
variable {P : Program} {w : World} {K : PySem.W.Frag} {mg : Str → Option Value} {base : Heap}
theorem ok_law_seed {f : Addr} {fd : FuncData} (F : FnP K "_law_seed" "_law_seed" s_law_seed f fd) (T : Txt K mg)   : FnOk P w K mg base (L2.CX P w) 1 f fd ["_law_script", "_law_at"] (sp_law_seed K) := by
  refine F.ok sc_law_seed (fun vs H Q E h => ?_) (fun cdv A outer s H vs Q E hr h => ?_)
  · obtain ⟨a, ns, n, rfl, _⟩ := h
    rfl
  · have nd := sc_law_seed.nd
    have tk := takes_of (E := E) (X := (cxOf (L2.CX P w) P w K mg base ["_law_script", "_law_at", "_law_cell", "_law_mixed", "_law_k", "_law_each"] "_law_seed" (defScope s_law_seed) f cdv A outer s H E)) rfl rfl rfl rfl
    have po : PassesOwn (model P w) (cxOf (L2.CX P w) P w K mg base ["_law_script", "_law_at", "_law_cell", "_law_mixed", "_law_k", "_law_each"] "_law_seed" (defScope s_law_seed) f cdv A outer s H E).A (cxOf (L2.CX P w) P w K mg base ["_law_script", "_law_at", "_law_cell", "_law_mixed", "_law_k", "_law_each"] "_law_seed" (defScope s_law_seed) f cdv A outer s H E).env (cxOf (L2.CX P w) P w K mg base ["_law_script", "_law_at", "_law_cell", "_law_mixed", "_law_k", "_law_each"] "_law_seed" (defScope s_law_seed) f cdv A outer s H E).xe := passes_of (X := (cxOf (L2.CX P w) P w K mg base ["_law_script", "_law_at", "_law_cell", "_law_mixed", "_law_k", "_law_each"] "_law_seed" (defScope s_law_seed) f cdv A outer s H E)) rfl
    obtain ⟨a, ns, n, rfl, hS, h0, k⟩ := h
    refine ⟨_, (pss_cons (q_set 2 nd (pe_ifExp (pt_cmpR op_dLt (pv 1) (pe_callB (cl_len K) (by rfl) T.n_len bt_len (pa_cons (pv 0) pa_nil)) (nomark _)) (pe_ix (ix_dyn K) (pv 0) (pv 1) (fun _ _ => rfl)) pe_int)) (pss_cons (q_set 3 nd (pe_op op_dAdd pe_int (pe_op op_dMul pe_int (pv 1)))) (pss_cons (ps_for po rfl (q_enum K T.n_enumerate (pa_cons (pe_slice (sl_dyn K) (pv 0) po_none (po_some pe_int)) pa_nil)) (q_gtup K 2 (pgs_cons (q_name 4 nd) (pgs_cons (q_name 5 nd) pgs_nil))) (pss_one (q_set 3 nd (pe_op op_dMod (pe_callTy cl_int (by rfl) T.n_int bt_int (pa_cons (pe_op op_dAdd (pe_op op_dAdd (pe_op op_dMul (pv 3) pe_int) (pe_op op_dMod (pe_callTy cl_int (by rfl) T.n_int bt_int (pa_cons (pv 5) pa_nil)) pe_int)) (pe_op op_dMul pe_int (pv 4))) pa_nil)) pe_int)))) (pss_one (ps_ret (pe_lst (pa_cons (pe_ifExp (pt_cmpR op_dGe (pe_callB cl_abs (by rfl) T.n_abs bt_abs (pa_cons (pv 2) pa_nil)) (pe_op op_dPow pe_int pe_int) (nomark _)) (pe_callB cl_abs (by rfl) T.n_abs bt_abs (pa_cons (pv 2) pa_nil)) pe_int) (pa_cons (pv 3) pa_nil)))))))), ?_⟩
    refine g_start (σ' := some _ :: some _ :: none :: none :: none :: none :: []) rfl ?_
    walk_at "go"
    refine' g_all (α := Int) (fun rest => ?main) ?rest
    case main =>
      refine g_iteD (fun hlt => ?_) (fun hlt => ?_)
      · walk_at "go"
        obtain ⟨c, hc⟩ := atI_int h0 hlt
        refine g_ix_l (Or.inl hS) hc ?_
        exact rest c
      · walk_at "go1"
        exact rest 0
    case rest =>
      intro c
      walk_at "go"
      intro l hl
      walk_at "go"
      refine lp_it (walk_enum (xs := cutV (ns.map V.int) none (some 63))) (fun i σ' H' => ∃ (m : Int) (u v : Option V), σ' = [some (.ref a), some (.int n), some (.int c), some (.int m), u, v] ∧ Same H H' ∧ H' l = some (.lst (cutV (ns.map V.int) none (some 63)))) ?_ ?_ ?_ ?_
      · exact ⟨_, none, none, rfl, (Same.refl H).new hl, upd_same⟩
      · rintro i σ' H' _ ⟨m, u, v, rfl, s1, h1⟩
        exact SqL.of h1
      · rintro i x σ' H' H2 hi ⟨m, u, v, rfl, s1, h1⟩ ⟨t, x1, y1, rfl, ht, rfl, e1, e2⟩
        cases e1
        obtain ⟨z, _, rfl⟩ := List.mem_map.mp (cutV_mem (List.mem_of_getElem? e2))
        walk_at "go"
        exact ⟨_, _, _, rfl, s1.new ht, by walk_at "hp"⟩
      · rintro σ' H' ⟨m, u, v, rfl, s1, h1⟩
        walk_at "go"
        refine g_iteD (fun _ => ?_) (fun _ => ?_)
        all_goals
          walk_at "go"
          refine ⟨by show 2 ≤ sizeLine; decide, fun p hp => ?_⟩
          exact k p _ (s1.new hp) (s1.free hp) Bag.at
end
section
variable {P : Program} {w : World} {K : PySem.W.Frag} {mg : Str → Option Value} {base : Heap}
theorem ok_law_take {f : Addr} {fd : FuncData} (F : FnP K "_law_take" "_law_take" s_law_take f fd) (T : Txt K mg)   : FnOk P w K mg base (L2.CX P w) 1 f fd ["_law_bag", "_law_many"] (sp_law_take K) := by
  refine F.ok sc_law_take (fun vs H Q E h => ?_) (fun cdv A outer s H vs Q E hr h => ?_)
  · obtain ⟨b, many, rfl, _⟩ := h
    rfl
  · have nd := sc_law_take.nd
    have tk := takes_of (E := E) (X := (cxOf (L2.CX P w) P w K mg base ["_law_bag", "_law_many", "_law_digit"] "_law_take" (defScope s_law_take) f cdv A outer s H E)) rfl rfl rfl rfl
    have po : PassesOwn (model P w) (cxOf (L2.CX P w) P w K mg base ["_law_bag", "_law_many", "_law_digit"] "_law_take" (defScope s_law_take) f cdv A outer s H E).A (cxOf (L2.CX P w) P w K mg base ["_law_bag", "_law_many", "_law_digit"] "_law_take" (defScope s_law_take) f cdv A outer s H E).env (cxOf (L2.CX P w) P w K mg base ["_law_bag", "_law_many", "_law_digit"] "_law_take" (defScope s_law_take) f cdv A outer s H E).xe := passes_of (X := (cxOf (L2.CX P w) P w K mg base ["_law_bag", "_law_many", "_law_digit"] "_law_take" (defScope s_law_take) f cdv A outer s H E)) rfl
    obtain ⟨b, many, rfl, ⟨x, y, hb⟩, h1, h2, k⟩ := h
    have h3 : many.natAbs.log2 < 9000 := log2_small (Nat.lt_of_lt_of_le (show many.natAbs < 2 ^ 200 by omega) (by decide)) (by omega)
    refine ⟨_, (pss_cons (ps_if (pt_cmpR op_dGt (pe_ix (ix_dyn K) (pv 0) pe_int (fun _ _ => rfl)) pe_int (nomark _)) (pss_cons (q_set 2 nd (pe_op op_dMod (pe_callTy cl_int (by rfl) T.n_int bt_int (pa_cons (pe_ix (ix_dyn K) (pv 0) pe_int (fun _ _ => rfl)) pa_nil)) (pv 1))) (pss_cons (ps_asg (pe_op op_dDiv (pe_ix (ix_dyn K) (pv 0) pe_int (fun _ _ => rfl)) (pv 1)) (pg_sub (pv 0) pe_int set_list)) (pss_one (ps_ret (pv 2))))) pss_nil) (pss_cons (ps_asg (pe_op op_dMod (pe_callTy cl_int (by rfl) T.n_int bt_int (pa_cons (pe_op op_dAdd (pe_op op_dMul (pe_ix (ix_dyn K) (pv 0) pe_int (fun _ _ => rfl)) pe_int) pe_int) pa_nil)) pe_int) (pg_sub (pv 0) pe_int set_list)) (pss_one (ps_ret (pe_op op_dMod (pe_op op_dDiv (pe_op op_dMod (pe_callTy cl_int (by rfl) T.n_int bt_int (pa_cons (pe_op op_dMul (pe_op op_dDiv (pe_ix (ix_dyn K) (pv 0) pe_int (fun _ _ => rfl)) pe_int) pe_int) pa_nil)) pe_int) pe_int) (pv 1)))))), ?_⟩
    refine g_start (σ' := some _ :: some _ :: none :: []) rfl ?_
    walk_at "go"
    refine g_iteD (fun h => ?_) (fun h => ?_)
    · walk_at "go"
      exact k _ _ (Int.emod_nonneg _ (by omega)) (Int.emod_lt_of_pos _ h1) ((Sx.refl H).put (by simp)) Bag.at
    · walk_at "go"
      exact k _ _ (Int.emod_nonneg _ (by omega)) (Int.emod_lt_of_pos _ h1) ((Sx.refl H).put (by simp)) Bag.at
end
section
variable {P : Program} {w : World} {K : PySem.W.Frag} {mg : Str → Option Value} {base : Heap}
theorem ok_law_of {f : Addr} {fd : FuncData} (F : FnP K "_law_of" "_law_of" s_law_of f fd) (T : Txt K mg) (C__law_take : Cal P w K mg base 1 "_law_take" ["_law_bag", "_law_many"] (sp_law_take K))  : FnOk P w K mg base (L2.CX P w) 2 f fd ["_law_bag", "_law_some"] (sp_law_of K) := by
  refine F.ok sc_law_of (fun vs H Q E h => ?_) (fun cdv A outer s H vs Q E hr h => ?_)
  · obtain ⟨b, p, xs, rfl, _⟩ := h
    rfl
  · have nd := sc_law_of.nd
    have tk := takes_of (E := E) (X := (cxOf (L2.CX P w) P w K mg base ["_law_bag", "_law_some"] "_law_of" (defScope s_law_of) f cdv A outer s H E)) rfl rfl rfl rfl
    have po : PassesOwn (model P w) (cxOf (L2.CX P w) P w K mg base ["_law_bag", "_law_some"] "_law_of" (defScope s_law_of) f cdv A outer s H E).A (cxOf (L2.CX P w) P w K mg base ["_law_bag", "_law_some"] "_law_of" (defScope s_law_of) f cdv A outer s H E).env (cxOf (L2.CX P w) P w K mg base ["_law_bag", "_law_some"] "_law_of" (defScope s_law_of) f cdv A outer s H E).xe := passes_of (X := (cxOf (L2.CX P w) P w K mg base ["_law_bag", "_law_some"] "_law_of" (defScope s_law_of) f cdv A outer s H E)) rfl
    obtain ⟨b, p, xs, rfl, hb, hp, hne, h1, h2, k⟩ := h
    refine ⟨_, (pss_one (ps_ret (pe_ix (ix_dyn K) (pv 1) (q_call C__law_take tk (hr.mono (by decide)) (pa_cons (pv 0) (pa_cons (pe_callB (cl_len K) (by rfl) T.n_len bt_len (pa_cons (pv 1) pa_nil)) pa_nil))) (fun _ _ => rfl)))), ?_⟩
    refine g_start (σ' := some _ :: some _ :: []) rfl ?_
    walk_at "go"
    refine ⟨b, _, rfl, hb, by omega, by omega, fun d H' d0 d1 s1 b1 => ?_⟩
    obtain ⟨v, hv, e⟩ := atI_mem d0 d1
    exact g_ix_l (Or.inl (SqL.of (s1.get1 hne hp))) e (k v H' hv s1 b1)
end
section
variable {P : Program} {w : World} {K : PySem.W.Frag} {mg : Str → Option Value} {base : Heap}
theorem ok_is_number {f : Addr} {fd : FuncData} (F : FnP K "is_number" "is_number" s_is_number f fd) (T : Txt K mg)   : FnOk P w K mg base (L2.CX P w) 1 f fd ["token"] (sp_is_number K) := by
  refine F.ok sc_is_number (fun vs H Q E h => ?_) (fun cdv A outer s H vs Q E hr h => ?_)
  · obtain ⟨t, rfl, _⟩ := h
    rfl
  · have nd := sc_is_number.nd
    have tk := takes_of (E := E) (X := (cxOf (L2.CX P w) P w K mg base ["token", "char"] "is_number" (defScope s_is_number) f cdv A outer s H E)) rfl rfl rfl rfl
    have po : PassesOwn (model P w) (cxOf (L2.CX P w) P w K mg base ["token", "char"] "is_number" (defScope s_is_number) f cdv A outer s H E).A (cxOf (L2.CX P w) P w K mg base ["token", "char"] "is_number" (defScope s_is_number) f cdv A outer s H E).env (cxOf (L2.CX P w) P w K mg base ["token", "char"] "is_number" (defScope s_is_number) f cdv A outer s H E).xe := passes_of (X := (cxOf (L2.CX P w) P w K mg base ["token", "char"] "is_number" (defScope s_is_number) f cdv A outer s H E)) rfl
    obtain ⟨t, rfl, hl, k⟩ := h
    have hz : t.length ≤ sizeLine := by rw [sizeLine_eq]; omega
    refine ⟨_, (pss_cons (ps_if (PW.pt (pw_or (pt_cmpR (op_dEq K hr.units) (pv 0) pe_str (nomark _)) (pw_or1 (pt_cmpR op_dGt (pe_callB (cl_len K) (by rfl) T.n_len bt_len (pa_cons (pv 0) pa_nil)) pe_int (nomark _))))) (pss_one (ps_ret pe_bl)) pss_nil) (pss_cons (ps_for po rfl (pi_str (pv 0)) (q_name 1 nd) (pss_one (ps_if (pt_cmpR (op_dNotIn K) (pv 1) pe_str (by rfl)) (pss_one (ps_ret pe_bl)) pss_nil))) (pss_one (ps_ret (q_orT K (pe_cmpR (op_dEq K hr.units) (pv 0) pe_str (nomark _)) (pe_one (pe_cmpR (op_dNe K hr.units) (pe_ix (ix_dyn K) (pv 0) pe_int (fun _ _ => rfl)) pe_str (nomark _)))))))), ?_⟩
    refine g_start (σ' := some _ :: none :: []) rfl ?_
    walk_at "go"
    refine g_iteD (fun e => ?_) (fun e => ?_)
    · walk_at "go"
      rw [show isNum t = false by unfold isNum; rw [decide_eq_true e]; rfl] at k
      exact k
    · walk_at "go"
      refine g_iteD (fun e2 => ?_) (fun e2 => ?_)
      · walk_at "go"
        rw [show isNum t = false by unfold isNum; rw [decide_eq_true e2, Bool.or_true]; rfl] at k
        exact k
      · walk_at "go"
        refine lp_it walk_str (fun i σ' H' => ∃ v : Option V, σ' = [some (.str t), v] ∧ H' = H ∧ ((t.cps.toList.take i).all fun c => decide (c ∈ digs.cps.toList)) = true) ⟨none, rfl, rfl, rfl⟩ (fun _ _ _ _ _ => trivial) ?_ ?_
        · rintro i x σ' H' H2 hi ⟨v, rfl, rfl, ha⟩ ⟨rfl, c, hc, rfl⟩
          have hc' : t.cps.toList[i]? = some c := by simpa using hc
          walk_at "go"
          refine g_iteN (fun hn => ?_) (fun hn => ?_)
          · walk_at "go"
            have hb := all_no (f := fun c => decide (c ∈ digs.cps.toList)) hc' (decide_eq_false hn)
            rw [show isNum t = false by unfold isNum; rw [hb]; simp] at k
            exact k
          · walk_at "go"
            exact ⟨_, rfl, rfl, all_take_succ hc' (decide_eq_true hn) ha⟩
        · rintro σ' H' ⟨v, rfl, rfl, ha⟩
          have ha' : (t.cps.toList.all fun c => decide (c ∈ digs.cps.toList)) = true := by
            rw [List.take_of_length_le (by simp)] at ha
            exact ha
          have kk : Q (.bl (decide (t = "0") || !decide ((⟨#[t.cps.toList.headD 0]⟩ : Str) = "0"))) H' := by
            have : isNum t = (decide (t = "0") || !decide ((⟨#[t.cps.toList.headD 0]⟩ : Str) = "0")) := by
              unfold isNum
              rw [ha', decide_eq_false e, decide_eq_false e2]
              simp
            rw [← this]
            exact k
          walk_at "go"
          refine g_iteD (fun e3 => ?_) (fun e3 => ?_)
          · rw [decide_eq_true e3] at kk ⊢
            exact kk
          · walk_at "go"
            refine g_ix_s hz (atI_zero (nil_of_ne e)) ?_
            walk_at "go"
            rw [decide_eq_false e3] at kk
            exact kk
end
section
variable {P : Program} {w : World} {K : PySem.W.Frag} {mg : Str → Option Value} {base : Heap}
theorem ok_read_sum {f : Addr} {fd : FuncData} (F : FnP K "read_sum" "read_sum" s_read_sum f fd) (T : Txt K mg) (C_is_number : Cal P w K mg base 1 "is_number" ["token"] (sp_is_number K))  : FnOk P w K mg base (L2.CX P w) 2 f fd ["tokens", "start", "names"] (sp_read_sum K) := by
  refine F.ok sc_read_sum (fun vs H Q E h => ?_) (fun cdv A outer s H vs Q E hr h => ?_)
  · obtain ⟨p, q, toks, names, s, rfl, _⟩ := h
    rfl
  · have nd := sc_read_sum.nd
    have tk := takes_of (E := E) (X := (cxOf (L2.CX P w) P w K mg base ["tokens", "start", "names", "terms", "factor", "at", "token"] "read_sum" (defScope s_read_sum) f cdv A outer s H E)) rfl rfl rfl rfl
    have po : PassesOwn (model P w) (cxOf (L2.CX P w) P w K mg base ["tokens", "start", "names", "terms", "factor", "at", "token"] "read_sum" (defScope s_read_sum) f cdv A outer s H E).A (cxOf (L2.CX P w) P w K mg base ["tokens", "start", "names", "terms", "factor", "at", "token"] "read_sum" (defScope s_read_sum) f cdv A outer s H E).env (cxOf (L2.CX P w) P w K mg base ["tokens", "start", "names", "terms", "factor", "at", "token"] "read_sum" (defScope s_read_sum) f cdv A outer s H E).xe := passes_of (X := (cxOf (L2.CX P w) P w K mg base ["tokens", "start", "names", "terms", "factor", "at", "token"] "read_sum" (defScope s_read_sum) f cdv A outer s H E)) rfl
    obtain ⟨p, q, toks, names, s0, rfl, hp, hq, hl, k⟩ := h
    refine ⟨_, (pss_cons (q_set 3 nd (pe_lst pa_nil)) (pss_cons (q_set 4 nd pe_int) (pss_cons (q_set 5 nd (pv 1)) (pss_one (ps_while po (q_truth K pe_bl) (pss_cons (q_set 6 nd (pe_ifExp (pt_cmpR op_dLt (pv 5) (pe_callB (cl_len K) (by rfl) T.n_len bt_len (pa_cons (pv 0) pa_nil)) (nomark _)) (pe_ix (ix_dyn K) (pv 0) (pv 5) (fun _ _ => rfl)) pe_str)) (pss_cons (ps_if (pt_cmpR (op_dIn K) (pv 6) (pv 2) (by rfl)) (pss_one (ps_expr (q_bm K PySem.F.plainAttrs_list PySem.F.slot_list_append PySem.F.type_list_append m_append (pv 3) (pa_cons (pe_tup (pa_cons (pv 4) (pa_cons (pv 6) pa_nil))) pa_nil)))) (pss_one (ps_if (q_truth K (q_call C_is_number tk (hr.mono (by decide)) (pa_cons (pv 6) pa_nil))) (pss_one (ps_expr (q_bm K PySem.F.plainAttrs_list PySem.F.slot_list_append PySem.F.type_list_append m_append (pv 3) (pa_cons (pe_tup (pa_cons (pv 4) (pa_cons (pe_callTy cl_int (by rfl) T.n_int bt_int (pa_cons (pv 6) pa_nil)) pa_nil))) pa_nil)))) (pss_one (ps_ret (pe_tup (pa_cons pe_non (pa_cons (pv 5) pa_nil)))))))) (pss_cons (q_aug 5 nd pe_int ip_add) (pss_cons (ps_if (PW.pt (pw_or (pt_cmpR op_dGe (pv 5) (pe_callB (cl_len K) (by rfl) T.n_len bt_len (pa_cons (pv 0) pa_nil)) (nomark _)) (pw_or (pt_cmpR (op_dNotIn K) (pe_ix (ix_dyn K) (pv 0) (pv 5) (fun _ _ => rfl)) (pe_tup (pa_cons pe_str (pa_cons pe_str pa_nil))) (by rfl)) (pw_or1 (pt_cmpR (op_dEq K hr.units) (pe_callB (cl_len K) (by rfl) T.n_len bt_len (pa_cons (pv 3) pa_nil)) (q_glob T.g_MOST_TERMS) (nomark _)))))) (pss_one (ps_ret (pe_tup (pa_cons (pv 3) (pa_cons (pv 5) pa_nil))))) pss_nil) (pss_cons (q_set 4 nd (pe_ifExp (pt_cmpR (op_dEq K hr.units) (pe_ix (ix_dyn K) (pv 0) (pv 5) (fun _ _ => rfl)) pe_str (nomark _)) pe_int (pe_un un_neg pe_int))) (pss_one (q_aug 5 nd pe_int ip_add)))))))))))), ?_⟩
    refine g_start (σ' := some _ :: some _ :: some _ :: none :: none :: none :: none :: []) rfl ?_
    walk_at "go"
    refine al fun l hl0 => ?_
    walk_at "go"
    refine ⟨fun m σ' H' => ∃ (n : Nat) (f : Int) (acc : Terms) (u : Option V), σ' = [some (.ref p), some (.int (s0 : Nat)), some (.ref q), some (.ref l), some (.int f), some (.int (n : Nat)), u] ∧ Same H H' ∧ TermsAt H' l acc ∧ acc.length + m = 5 ∧ 0 < m ∧ readS names toks m n f acc = readS names toks 5 s0 1 [], ⟨5, s0, 1, [], none, rfl, (Same.refl H).new hl0, TermsAt.nil, rfl, by decide, rfl⟩, ?_⟩
    rintro m σ' H' ⟨n, f, acc, u, rfl, s1, ⟨as, hla, hpa⟩, hm, hm0, hrd⟩
    obtain ⟨m, rfl⟩ : ∃ j, m = j + 1 := ⟨m - 1, by omega⟩
    walk_at "go"
    refine ⟨_, fun _ _ h => h, ?_⟩
    walk_at "go"
    refine' g_allW (α := Str) (W := fun c => c = toks.getD n "") (fun rest => ?main) ?rest
    case main =>
      refine g_iteD (fun hlt => ?_) (fun hlt => ?_)
      · walk_at "go"
        have hn : n < toks.length := by simpa using hlt
        obtain ⟨c, hc⟩ : ∃ c, toks[n]? = some c := ⟨_, List.getElem?_eq_getElem hn⟩
        refine g_ix_l (Or.inl (sqL_same hp s1)) (atI_map hc) ?_
        exact rest c (by rw [List.getD_eq_getElem?_getD, hc]; rfl)
      · walk_at "go1"
        refine rest "" ?_
        rw [List.getD_eq_getElem?_getD, List.getElem?_eq_none (by simp at hlt; omega)]
        rfl
    case rest =>
      intro c hc
      have hlc : c.length ≤ 10000 := by
        rw [hc, List.getD_eq_getElem?_getD]
        cases e : toks[n]? with
        | none => exact Nat.zero_le _
        | some d => exact hl d (List.mem_of_getElem? e)
      have hlen : as.length ≤ 4 := by have := Paired.length hpa; omega
      walk_at "go"
      refine' g_allW (α := Hp) (W := fun H2 => ∃ t, termOf names c = some t ∧ Same H H2 ∧ TermsAt H2 l (acc ++ [(f, t)])) (fun rest2 => ?main2) ?rest2
      case main2 =>
        refine g_iteD (fun hin => ?_) (fun hin => ?_)
        · walk_at "go"
          refine al fun a ha => ?_
          walk_at "go"
          have s2 := (s1.new (o := .tup [.int f, .str c]) ha).mut (o := .lst (as.map V.ref ++ [.ref a])) hl0
          have t2 : TermsAt _ l (acc ++ [(f, .nam c)]) := TermsAt.snoc (t := .nam c) (f := f) hla hpa ha
          change Same H (upd (upd H' a (.tup [.int f, .str c])) l _) at s2
          change TermsAt (upd (upd H' a (.tup [.int f, .str c])) l _) l _ at t2
          generalize upd (upd H' a (.tup [.int f, .str c])) l _ = H2 at s2 t2 ⊢
          exact rest2 H2 ⟨_, by unfold termOf; rw [if_pos hin], s2, t2⟩
        · walk_at "go"
          refine ⟨c, rfl, hlc, ?_⟩
          walk_at "go"
          refine g_ite (fun hn => ?_) (fun hn => ?_)
          · walk_at "go"
            refine g_int_s (isNum_int hn) (by have := (isNum_parts hn).2.1; omega) ?_
            walk_at "go"
            refine al fun a ha => ?_
            walk_at "go"
            have s2 := (s1.new (o := .tup [.int f, .int (numVal c)]) ha).mut (o := .lst (as.map V.ref ++ [.ref a])) hl0
            have t2 : TermsAt _ l (acc ++ [(f, .num (numVal c))]) := TermsAt.snoc (t := .num (numVal c)) (f := f) hla hpa ha
            change TermsAt (upd (upd H' a (.tup [.int f, .int (numVal c)])) l _) l _ at t2
            generalize upd (upd H' a (.tup [.int f, .int (numVal c)])) l _ = H2 at s2 t2 ⊢
            exact rest2 H2 ⟨_, by unfold termOf; rw [if_neg hin, if_pos hn], s2, t2⟩
          · walk_at "go"
            refine al fun a ha => ?_
            refine k a _ (s1.new ha) (s1.free ha) ?_
            have e : termOf names (toks.getD n "") = none := by
              rw [← hc]; unfold termOf; rw [if_neg hin, if_neg (by rw [hn]; exact Bool.false_ne_true)]
            rw [← hrd]
            unfold readS
            rw [e]
            exact upd_same
      case rest2 =>
        rintro H2 ⟨t, ht, s2, as2, hl2, hp2⟩
        have hlen2 : as2.length = acc.length + 1 := by have := Paired.length hp2; simpa using this
        have e : termOf names (toks.getD n "") = some t := by rw [← hc]; exact ht
        have fin : ∀ H3, Same H H3 → TermsAt H3 l (acc ++ [(f, t)]) → (toks.length ≤ n + 1 ∨ isOp (toks.getD (n + 1) "") = false ∨ acc.length + 1 = 5) → ∀ a, H3 a = none → Q (.ref a) (upd H3 a (.tup [.ref l, .int ((n : Int) + 1)])) := fun H3 s3 t3 hs a ha => by
          refine k a _ (s3.new ha) (s3.free ha) ?_
          rw [← hrd]
          unfold readS
          rw [e]
          dsimp only
          rw [if_pos hs]
          exact ⟨l, hl0, upd_same, t3.same ((Same.refl H3).new ha)⟩
        walk_at "go"
        refine g_iteD (fun h5 => ?_) (fun h5 => ?_)
        · walk_at "go"
          exact al fun a ha => fin H2 s2 ⟨as2, hl2, hp2⟩ (.inl (by simp at h5; omega)) a ha
        · walk_at "go"
          have hn1 : n + 1 < toks.length := by simp at h5; omega
          obtain ⟨d, hd⟩ : ∃ d, toks[n + 1]? = some d := ⟨_, List.getElem?_eq_getElem hn1⟩
          have hgd : toks.getD (n + 1) "" = d := by rw [List.getD_eq_getElem?_getD, hd]; rfl
          refine g_ix_l (Or.inl (sqL_same hp s2)) (atI_map (i := n + 1) hd) ?_
          walk_at "go"
          refine al fun b hb => ?_
          have s3 : Same H (upd H2 b (.tup [.str "+", .str "-"])) := s2.new hb
          have t3 : TermsAt (upd H2 b (.tup [.str "+", .str "-"])) l (acc ++ [(f, t)]) := TermsAt.same ⟨as2, hl2, hp2⟩ ((Same.refl H2).new hb)
          have hl3 : upd H2 b (.tup [.str "+", .str "-"]) l = some (.lst (as2.map V.ref)) := by walk_at "hp"
          have h3b : upd H2 b (.tup [.str "+", .str "-"]) b = some (.tup [.str "+", .str "-"]) := upd_same
          generalize upd H2 b (.tup [.str "+", .str "-"]) = H3 at s3 t3 hl3 h3b ⊢
          walk_at "go"
          rw [inV_ops]
          refine g_ite (fun h6 => ?_) (fun h6 => ?_)
          · walk_at "go"
            exact al fun a ha => fin H3 s3 t3 (.inr (.inl (by rw [hgd]; simpa using h6))) a ha
          · walk_at "go"
            refine g_iteD (fun h7 => ?_) (fun h7 => ?_)
            · walk_at "go"
              exact al fun a ha => fin H3 s3 t3 (.inr (.inr (by simp at h7; omega))) a ha
            · walk_at "go"
              refine g_ix_l (Or.inl (sqL_same hp s3)) (atI_map (i := n + 1) hd) ?_
              walk_at "go"
              have next : readS names toks m (n + 2) (signOf d) (acc ++ [(f, t)]) = readS names toks 5 s0 1 [] := by
                rw [← hrd]
                conv => rhs; unfold readS
                rw [e]
                dsimp only
                rw [if_neg ?_, hgd]
                rintro (z | z | z)
                · omega
                · rw [hgd] at z; rw [z] at h6; cases h6
                · simp at h7; omega
              have hm1 : 0 < m := by simp at h7; omega
              refine g_iteD (fun h8 => ?_) (fun h8 => ?_)
              · walk_at "go"
                refine ⟨m, by omega, n + 2, 1, acc ++ [(f, t)], _, rfl, s3, t3, by simp; omega, hm1, ?_⟩
                rw [← next, show signOf d = 1 by unfold signOf; rw [if_pos h8]]
              · walk_at "go"
                refine ⟨m, by omega, n + 2, -1, acc ++ [(f, t)], _, rfl, s3, t3, by simp; omega, hm1, ?_⟩
                rw [← next, show signOf d = -1 by unfold signOf; rw [if_neg h8]]
end
section
variable {P : Program} {w : World} {K : PySem.W.Frag} {mg : Str → Option Value} {base : Heap}
theorem ok_Sum___init__ {f : Addr} {fd : FuncData} (F : FnP K "__init__" "Sum.__init__" s_Sum___init__ f fd) (T : Txt K mg) (C_read_sum : Cal P w K mg base 2 "read_sum" ["tokens", "start", "names"] (sp_read_sum K)) (X_BadSum : XC P w K mg base 1 "BadSum" "at" (He.ga K "BadSum"))  : FnOk P w K mg base (L2.CX P w) 3 f fd ["self", "text", "names"] (sp_Sum___init__ K) := by
  refine F.ok sc_Sum___init__ (fun vs H Q E h => ?_) (fun cdv A outer s H vs Q E hr h => ?_)
  · obtain ⟨x, dx, q, text, names, rfl, _⟩ := h
    rfl
  · have nd := sc_Sum___init__.nd
    have tk := takes_of (E := E) (X := (cxOf (L2.CX P w) P w K mg base ["self", "text", "names", "tokens", "terms", "stop"] "Sum.__init__" (defScope s_Sum___init__) f cdv A outer s H E)) rfl rfl rfl rfl
    have po : PassesOwn (model P w) (cxOf (L2.CX P w) P w K mg base ["self", "text", "names", "tokens", "terms", "stop"] "Sum.__init__" (defScope s_Sum___init__) f cdv A outer s H E).A (cxOf (L2.CX P w) P w K mg base ["self", "text", "names", "tokens", "terms", "stop"] "Sum.__init__" (defScope s_Sum___init__) f cdv A outer s H E).env (cxOf (L2.CX P w) P w K mg base ["self", "text", "names", "tokens", "terms", "stop"] "Sum.__init__" (defScope s_Sum___init__) f cdv A outer s H E).xe := passes_of (X := (cxOf (L2.CX P w) P w K mg base ["self", "text", "names", "tokens", "terms", "stop"] "Sum.__init__" (defScope s_Sum___init__) f cdv A outer s H E)) rfl
    obtain ⟨x, dx, q, text, names, rfl, hx, hq, hne, hl, kE, kQ⟩ := h
    have cS := T.c_Sum
    have aT := T.a_Sum_terms
    have aS := T.a_Sum_shown
    have hww := StrLaws.words_weight text
    refine ⟨_, (pss_cons (q_set 3 nd (q_bm0 K PySem.F.plainAttrs_str PySem.F.slot_str_split PySem.F.type_str_split m_words (pv 1))) (pss_cons (ps_asg (q_call C_read_sum tk (hr.mono (by decide)) (pa_cons (pv 3) (pa_cons pe_int (pa_cons (pv 2) pa_nil)))) (q_gtup K 2 (pgs_cons (q_name 4 nd) (pgs_cons (q_name 5 nd) pgs_nil)))) (pss_cons (ps_if (PW.pt (pw_or (pt_cmpR op_dIs (pv 4) pe_non (nomark _)) (pw_or1 (pt_cmpR op_dLt (pv 5) (pe_callB (cl_len K) (by rfl) T.n_len bt_len (pa_cons (pv 3) pa_nil)) (nomark _))))) (pss_one (q_raise X_BadSum tk (hr.mono (by decide)) (pa_cons (pv 5) pa_nil))) pss_nil) (pss_cons (q_sfld K (pv 0) (pv 4)) (pss_one (q_sfld K (pv 0) (q_bm K PySem.F.plainAttrs_str PySem.F.slot_str_join PySem.F.type_str_join (m_join K) pe_str (pa_cons (pv 3) pa_nil)))))))), ?_⟩
    refine g_start (σ' := some _ :: some _ :: some _ :: none :: none :: none :: []) rfl ?_
    walk_at "go"
    intro tp htp
    walk_at "go"
    refine ⟨tp, q, Txt.words text, names, 0, rfl, SqL.of upd_same, sqL_same hq ((Same.refl H).new htp), fun t ht => Nat.le_trans (lens_words ht) hl, fun t H' s1 h0 hrs => ?_⟩
    have s2 : Same H H' := Same.trans ((Same.refl H).new htp) s1
    have htp2 := s1 _ _ (upd_same (H := H) (a := tp))
    rcases e : readS names (Txt.words text) 5 0 1 [] with ⟨_ | ts, n⟩
    · rw [e] at hrs kE
      have hrs : H' t = some (.tup [.non, .int (n : Nat)]) := hrs
      walk_at "go"
      refine g_iteD (fun _ => ?_) (fun z => absurd rfl z)
      walk_at "go"
      intro d hd
      exact kE n (.inl rfl) rfl d _ (s2.new hd) (s2.free hd) upd_same
    · rw [e] at hrs kE
      obtain ⟨l, hl0, ht, hts⟩ := hrs
      walk_at "go"
      refine g_iteD (fun z => by cases z) (fun _ => ?_)
      walk_at "go"
      refine g_iteD (fun h5 => ?_) (fun h5 => ?_)
      · walk_at "go"
        intro d hd
        exact kE n (.inr (by simpa using h5)) rfl d _ (s2.new hd) (s2.free hd) upd_same
      · have en : n = (Txt.words text).length := by
          have := readS_le hne _ _ _ _ _ _ e
          simp at h5
          omega
        subst en
        have nx1 : x ≠ tp := ne_of_none hx htp
        walk_at "go"
        refine g_join (ys := Txt.words text) (Or.inl (SqL.of (by walk_at "hp"))) (by rw [show ((" " : Str)).length = 1 from rfl]; omega) ?_
        walk_at "go"
        rw [upd_upd, put_shown]
        refine kQ ts _ e ((Sx.of s2).put (by simp)) ⟨dx, l, upd_same, ?_⟩
        obtain ⟨as, g1, g2⟩ := hts
        refine ⟨as, ?_, Paired.mapP g2 fun a u ea => ?_⟩
        · rw [upd_ne (ne_of g1 (s2 _ _ hx) (by intro z; cases z))]; exact g1
        · rw [upd_ne (ne_of ea (s2 _ _ hx) (by intro z; cases z))]; exact ea
end
section
variable {P : Program} {w : World} {K : PySem.W.Frag} {mg : Str → Option Value} {base : Heap}
theorem ok_law_names {f : Addr} {fd : FuncData} (F : FnP K "_law_names" "_law_names" s_law_names f fd) (T : Txt K mg) (C__law_of : Cal P w K mg base 2 "_law_of" ["_law_bag", "_law_some"] (sp_law_of K)) (C__law_take : Cal P w K mg base 1 "_law_take" ["_law_bag", "_law_many"] (sp_law_take K))  : FnOk P w K mg base (L2.CX P w) 3 f fd ["_law_bag", "_law_many"] (sp_law_names K) := by
  refine F.ok sc_law_names (fun vs H Q E h => ?_) (fun cdv A outer s H vs Q E hr h => ?_)
  · obtain ⟨b, many, rfl, _⟩ := h
    rfl
  · have nd := sc_law_names.nd
    have tk := takes_of (E := E) (X := (cxOf (L2.CX P w) P w K mg base ["_law_bag", "_law_many", "_law_first", "_law_names_here", "_law_k", "_law_letters", "_law_turn"] "_law_names" (defScope s_law_names) f cdv A outer s H E)) rfl rfl rfl rfl
    have po : PassesOwn (model P w) (cxOf (L2.CX P w) P w K mg base ["_law_bag", "_law_many", "_law_first", "_law_names_here", "_law_k", "_law_letters", "_law_turn"] "_law_names" (defScope s_law_names) f cdv A outer s H E).A (cxOf (L2.CX P w) P w K mg base ["_law_bag", "_law_many", "_law_first", "_law_names_here", "_law_k", "_law_letters", "_law_turn"] "_law_names" (defScope s_law_names) f cdv A outer s H E).env (cxOf (L2.CX P w) P w K mg base ["_law_bag", "_law_many", "_law_first", "_law_names_here", "_law_k", "_law_letters", "_law_turn"] "_law_names" (defScope s_law_names) f cdv A outer s H E).xe := passes_of (X := (cxOf (L2.CX P w) P w K mg base ["_law_bag", "_law_many", "_law_first", "_law_names_here", "_law_k", "_law_letters", "_law_turn"] "_law_names" (defScope s_law_names) f cdv A outer s H E)) rfl
    obtain ⟨b, many, rfl, hb, hm, k⟩ := h
    refine ⟨_, (pss_cons (q_set 2 nd (q_call C__law_take tk (hr.mono (by decide)) (pa_cons (pv 0) (pa_cons pe_int pa_nil)))) (pss_cons (q_set 3 nd (pe_lst pa_nil)) (pss_cons (ps_for po rfl (pi_range1 rfl T.n_range (pa_cons (pv 1) pa_nil)) (q_name 4 nd) (pss_cons (ps_setLc (i := 5) (own := [("_law_turn", 6)]) (tt := tYes) rfl nd rfl rfl (sw_true rfl rfl rfl (by decide +kernel)) (pi_range1 rfl T.n_range (pa_cons (q_call C__law_of tk (hr.mono (by decide)) (pa_cons (pv 0) (pa_cons (pe_lst (pa_cons pe_int (pa_cons pe_int (pa_cons pe_int (pa_cons pe_int (pa_cons pe_int pa_nil)))))) pa_nil))) pa_nil)) (blkOk_by (own := [("_law_turn", 6)]) (N := ["_law_bag", "_law_many", "_law_first", "_law_names_here", "_law_k", "_law_letters", "_law_turn"]) (sc := defScope s_law_names) (by decide +kernel)) (fun _ _ _ _ _ => (q_name 6 nd)) (fun _ _ _ _ _ => pts_nil) (fun _ _ _ _ _ => (pe_ix (ix_dyn K) pe_str (q_call C__law_take takes0 (hr.mono (by decide)) (pa_cons (pv 0) (pa_cons pe_int pa_nil))) (fun _ _ => rfl)))) (pss_one (ps_expr (q_bm K PySem.F.plainAttrs_list PySem.F.slot_list_append PySem.F.type_list_append m_append (pv 3) (pa_cons (pe_op op_dAdd (pe_ix (ix_dyn K) pe_str (pe_op op_dMod (pe_op op_dAdd (pv 2) (pv 4)) pe_int) (fun _ _ => rfl)) (q_bm K PySem.F.plainAttrs_str PySem.F.slot_str_join PySem.F.type_str_join (m_join K) pe_str (pa_cons (pv 5) pa_nil))) pa_nil)))))) (pss_one (ps_ret (pv 3)))))), ?_⟩
    refine g_start (σ' := some _ :: some _ :: none :: none :: none :: none :: none :: []) rfl ?_
    walk_at "go"
    refine ⟨b, 14, rfl, hb, by decide, by decide, fun fs H1 f0 f1 s1 b1 => ?_⟩
    walk_at "go"
    refine al fun p hp => ?_
    have npb : p ≠ b := b1.ne hp
    have hp0 : H p = none := s1.free (by simpa using npb) hp
    walk_at "go"
    refine lp_it walk_range (fun i σ' H' => ∃ (names : List Str) (u v : Option V), σ' = [some (.ref b), some (.int (many : Nat)), some (.int fs), some (.ref p), u, v, none] ∧ Sx [b] H H' ∧ Bag H' b ∧ H' p = some (.lst (names.map V.str)) ∧ names.length = i ∧ NamesOk fs.toNat names) ?_ (fun _ _ _ _ _ => trivial) ?_ ?_
    · exact ⟨[], none, none, rfl, s1.new hp, b1.new hp, upd_same, rfl, NamesOk.nil _⟩
    · rintro i x σ' H' H2 hi ⟨names, u, v, rfl, s2, b2, hp2, hl, ok⟩ ⟨rfl, rfl⟩
      walk_at "go"
      refine al fun q hq => ?_
      have nqb : q ≠ b := b2.ne hq
      have nqp : q ≠ p := (ne_of_none hp2 hq).symm
      walk_at "go"
      refine ⟨b, q, _, rfl, b2.new hq, upd_same, nqb, by decide, by decide, fun w H3 hw s3 b3 => ?_⟩
      obtain ⟨n, rfl, n0, n7⟩ : ∃ n : Int, w = .int n ∧ 0 ≤ n ∧ n ≤ 7 := by
        simp only [List.mem_cons, List.not_mem_nil, or_false] at hw
        rcases hw with rfl | rfl | rfl | rfl | rfl <;> exact ⟨_, rfl, by decide, by decide⟩
      have hp3 : H3 p = some (.lst (names.map V.str)) := s3.get1 npb (by rw [upd_ne nqp.symm]; exact hp2)
      have s4 : Sx [b] H H3 := Sx.trans (s2.new hq) s3
      clear s3
      walk_at "go"
      intro D hD
      have nDb : D ≠ b := b3.ne hD
      have nDp : D ≠ p := (ne_of_none hp3 hD).symm
      have hD0 : H D = none := s4.free (by simpa using nDb) hD
      refine lc_by walk_range (fun j H' => ∃ ls : List Str, H' D = some (.lst (ls.map V.str)) ∧ ls.length = j ∧ Lets ls ∧ Sx [b] H H' ∧ Bag H' b ∧ H' p = some (.lst (names.map V.str))) ?_ (fun _ _ _ _ => trivial) ?_ ?_
      · exact ⟨[], upd_same, rfl, (fun t ht => by simp at ht), s4.new hD, b3.new hD, by walk_at "hp"⟩
      · rintro j x H5 H6 hj ⟨ls, hl1, hl2, hl3, s5, b5, hp5⟩ ⟨rfl, rfl⟩
        walk_at "go"
        refine ⟨rfl, ?_⟩
        walk_at "go"
        refine ⟨b, 26, rfl, b5, by decide, by decide, fun d H7 d0 d1 s7 b7 => ?_⟩
        refine g_ix_s (by decide +kernel) (atI_abc d0 d1) ?_
        refine ⟨_, s7.get1 nDb hl1, by rw [sizeLine_eq]; simp; omega, ls ++ [⟨#[97 + d.toNat]⟩], by rw [upd_same, List.map_append]; rfl, by simp [hl2], lets_snoc hl3 (by omega) (by omega), ?_, b7.put nDb.symm, ?_⟩
        · exact (s5.trans s7).mut hD0
        · rw [upd_ne nDp.symm]; exact s7.get1 npb hp5
      · rintro H5 ⟨ls, hl1, hl2, hl3, s5, b5, hp5⟩
        walk_at "go"
        obtain ⟨c, hc, hc1, hc2⟩ := abc14_at ((fs.toNat + i) % 14) (Nat.mod_lt _ (by decide))
        have e14 := atI_of hc
        rw [show (((fs.toNat + i) % 14 : Nat) : Int) = (fs + (0 + (i : Int))) % 14 by omega] at e14
        refine g_ix_s (by decide +kernel) e14 ?_
        walk_at "go"
        obtain ⟨j1, j2⟩ := lets_join hl3
        have jl := sum_len_le (lets_len hl3)
        have jt : (Txt.join "" ls).length = ls.length := by rw [show Txt.join "" ls = Str.join "" ls from StrLaws.glued_eq_join _ _, ← j1]; simp [Str.length]
        refine g_join (ys := ls) (Or.inl (SqL.of hl1)) (by rw [show (("" : Str)).length = 0 from rfl]; omega) ?_
        refine g_add_s (by rw [jt, sizeLine_eq, show (⟨#[c]⟩ : Str).length = 1 from rfl]; omega) ?_
        walk_at "go"
        refine ⟨names ++ [⟨#[c]⟩ ++ Txt.join "" ls], _, _, rfl, s5.mut hp0, b5.put npb.symm, by rw [upd_same, List.map_append]; rfl, by simp [hl], ok.snoc ⟨c, (Str.join "" ls).cps.toList, ?_, by rw [hl]; exact hc, by rw [j1]; omega, j2⟩⟩
        rw [Str.cps_append, show Txt.join "" ls = Str.join "" ls from StrLaws.glued_eq_join _ _]
        simp
    · rintro σ' H' ⟨names, u, v, rfl, s2, b2, hp2, hl, ok⟩
      walk_at "go"
      exact k p fs.toNat names H' s2 b2 hp0 hp2 (by simpa using hl) ok
end
section
variable {P : Program} {w : World} {K : PySem.W.Frag} {mg : Str → Option Value} {base : Heap}
theorem ok_law_is_number {f : Addr} {fd : FuncData} (F : FnP K "_law_is_number" "_law_is_number" s_law_is_number f fd) (T : Txt K mg)   : FnOk P w K mg base (L2.CX P w) 1 f fd ["_law_token"] (sp_law_is_number K) := by
  refine F.ok sc_law_is_number (fun vs H Q E h => ?_) (fun cdv A outer s H vs Q E hr h => ?_)
  · obtain ⟨t, rfl, _⟩ := h
    rfl
  · have nd := sc_law_is_number.nd
    have tk := takes_of (E := E) (X := (cxOf (L2.CX P w) P w K mg base ["_law_token", "_law_sign"] "_law_is_number" (defScope s_law_is_number) f cdv A outer s H E)) rfl rfl rfl rfl
    have po : PassesOwn (model P w) (cxOf (L2.CX P w) P w K mg base ["_law_token", "_law_sign"] "_law_is_number" (defScope s_law_is_number) f cdv A outer s H E).A (cxOf (L2.CX P w) P w K mg base ["_law_token", "_law_sign"] "_law_is_number" (defScope s_law_is_number) f cdv A outer s H E).env (cxOf (L2.CX P w) P w K mg base ["_law_token", "_law_sign"] "_law_is_number" (defScope s_law_is_number) f cdv A outer s H E).xe := passes_of (X := (cxOf (L2.CX P w) P w K mg base ["_law_token", "_law_sign"] "_law_is_number" (defScope s_law_is_number) f cdv A outer s H E)) rfl
    obtain ⟨t, rfl, hl, ha, k⟩ := h
    have hz : t.length ≤ sizeLine := by rw [sizeLine_eq]; omega
    refine ⟨_, (pss_cons (ps_if (PW.pt (pw_or (pt_cmpR op_dGt (pe_callB (cl_len K) (by rfl) T.n_len bt_len (pa_cons (pv 0) pa_nil)) pe_int (nomark _)) (pw_or (pt_cmpR (op_dEq K hr.units) (pv 0) pe_str (nomark _)) (pw_or1 (pt_cmpR (op_dNe K hr.units) (pe_lc (own := [("_law_sign", 1)]) rfl nd (pi_str (pv 0)) (blkOk_by (own := [("_law_sign", 1)]) (N := ["_law_token", "_law_sign"]) (sc := defScope s_law_is_number) (by decide +kernel)) (fun _ _ _ _ _ => (q_name 1 nd)) (fun _ _ _ _ _ => (pts_one (pt_cmpR (op_dNotIn K) (pv 1) pe_str (by rfl)))) (fun _ _ _ _ _ => (pv 1))) (pe_lst pa_nil) (nomark _)))))) (pss_one (ps_ret pe_bl)) pss_nil) (pss_one (ps_ret (q_orT K (pe_cmpR (op_dEq K hr.units) (pv 0) pe_str (nomark _)) (pe_one (pe_cmpR (op_dNe K hr.units) (pe_ix (ix_dyn K) (pv 0) pe_int (fun _ _ => rfl)) pe_str (nomark _))))))), ?_⟩
    refine g_start (σ' := some _ :: none :: []) rfl ?_
    walk_at "go"
    refine g_iteD (fun e2 => ?_) (fun e2 => ?_)
    · walk_at "go"
      rw [show isNum t = false by unfold isNum; rw [decide_eq_true e2, Bool.or_true]; rfl] at k
      exact k H (Same.refl H)
    · walk_at "go"
      refine g_iteD (fun e => ?_) (fun e => ?_)
      · walk_at "go"
        rw [show isNum t = false by unfold isNum; rw [decide_eq_true e]; rfl] at k
        exact k H (Same.refl H)
      · walk_at "go"
        intro D hD
        refine lc_by walk_str (fun i H' => Same H H' ∧ H' D = some (.lst ((((t.cps.toList.take i).filter fun c => !decide (c ∈ digs.cps.toList)).map fun c => (⟨#[c]⟩ : Str)).map V.str))) ⟨(Same.refl H).new hD, upd_same⟩ (fun _ _ _ _ => trivial) ?_ ?_
        · rintro i x H1 H2 hi ⟨s1, hd1⟩ ⟨rfl, c, hc, rfl⟩
          have hc' : t.cps.toList[i]? = some c := by simpa using hc
          walk_at "go"
          refine ⟨rfl, ?_⟩
          walk_at "go"
          refine g_iteN (fun hn => ?_) (fun hn => ?_)
          · walk_at "go"
            refine ⟨_, hd1, ?_, s1.mut hD, ?_⟩
            · rw [sizeLine_eq]
              have := List.length_filter_le (fun c => !decide (c ∈ digs.cps.toList)) (t.cps.toList.take i)
              have h2 : (t.cps.toList.take i).length ≤ 10000 := by rw [List.length_take]; simp [Str.length] at hl ⊢; omega
              simp only [List.length_map]
              omega
            · have hn' : decide (c ∈ digs.cps.toList) = false := decide_eq_false hn
              rw [upd_same, filter_take hc', hn']
              simp
          · have hn' : decide (c ∈ digs.cps.toList) = true := decide_eq_true hn
            refine ⟨s1, ?_⟩
            rw [filter_take hc', hn', hd1]
            simp
        · rintro H1 ⟨s1, hd1⟩
          rw [List.take_of_length_le (by simp)] at hd1
          walk_at "go"
          refine al fun q hq => ?_
          refine g_neLs (ys := []) (sok_single (l := notDigs t.cps.toList) fun c hc => ha c (List.mem_filter.mp hc).1) (fun x hx => by cases hx) (SqL.of (by walk_at "hp")) (SqL.of upd_same) ?_
          walk_at "go"
          refine g_iteN (fun e3 => ?_) (fun e3 => ?_)
          · walk_at "go"
            have hb : (t.cps.toList.all fun c => decide (c ∈ digs.cps.toList)) = false := by
              rw [Bool.eq_false_iff]
              intro z
              exact e3 (by rw [notDigs_nil.mpr z]; rfl)
            rw [show isNum t = false by unfold isNum; rw [hb]; simp] at k
            exact k _ (s1.new hq)
          · have ha' : (t.cps.toList.all fun c => decide (c ∈ digs.cps.toList)) = true := notDigs_nil.mp (List.map_eq_nil_iff.mp e3)
            have kk : ∀ H', Same H H' → Q (.bl (decide (t = "0") || !decide ((⟨#[t.cps.toList.headD 0]⟩ : Str) = "0"))) H' := by
              have : isNum t = (decide (t = "0") || !decide ((⟨#[t.cps.toList.headD 0]⟩ : Str) = "0")) := by
                unfold isNum
                rw [ha', decide_eq_false e, decide_eq_false e2]
                simp
              rw [← this]
              exact k
            walk_at "go"
            refine g_iteD (fun e5 => ?_) (fun e5 => ?_)
            · rw [decide_eq_true e5] at kk ⊢
              exact kk _ (s1.new hq)
            · walk_at "go"
              refine g_ix_s hz (atI_zero (nil_of_ne e)) ?_
              walk_at "go"
              rw [decide_eq_false e5] at kk
              exact kk _ (s1.new hq)
end
section
variable {P : Program} {w : World} {K : PySem.W.Frag} {mg : Str → Option Value} {base : Heap}
theorem ok_law_wrong {f : Addr} {fd : FuncData} (F : FnP K "_law_wrong" "_law_wrong" s_law_wrong f fd) (T : Txt K mg) (C__law_is_number : Cal P w K mg base 1 "_law_is_number" ["_law_token"] (sp_law_is_number K))  : FnOk P w K mg base (L2.CX P w) 2 f fd ["_law_tokens_here", "_law_names_here"] (sp_law_wrong K) := by
  refine F.ok sc_law_wrong (fun vs H Q E h => ?_) (fun cdv A outer s H vs Q E hr h => ?_)
  · obtain ⟨p, q, toks, names, rfl, _⟩ := h
    rfl
  · have nd := sc_law_wrong.nd
    have tk := takes_of (E := E) (X := (cxOf (L2.CX P w) P w K mg base ["_law_tokens_here", "_law_names_here", "_law_at", "_law_token"] "_law_wrong" (defScope s_law_wrong) f cdv A outer s H E)) rfl rfl rfl rfl
    have po : PassesOwn (model P w) (cxOf (L2.CX P w) P w K mg base ["_law_tokens_here", "_law_names_here", "_law_at", "_law_token"] "_law_wrong" (defScope s_law_wrong) f cdv A outer s H E).A (cxOf (L2.CX P w) P w K mg base ["_law_tokens_here", "_law_names_here", "_law_at", "_law_token"] "_law_wrong" (defScope s_law_wrong) f cdv A outer s H E).env (cxOf (L2.CX P w) P w K mg base ["_law_tokens_here", "_law_names_here", "_law_at", "_law_token"] "_law_wrong" (defScope s_law_wrong) f cdv A outer s H E).xe := passes_of (X := (cxOf (L2.CX P w) P w K mg base ["_law_tokens_here", "_law_names_here", "_law_at", "_law_token"] "_law_wrong" (defScope s_law_wrong) f cdv A outer s H E)) rfl
    obtain ⟨p, q, toks, names, rfl, hp, hq, ha, k⟩ := h
    refine ⟨_, (pss_cons (ps_for po rfl (q_enum K T.n_enumerate (pa_cons (pv 0) pa_nil)) (q_gtup K 2 (pgs_cons (q_name 2 nd) (pgs_cons (q_name 3 nd) pgs_nil))) (pss_cons (ps_if (PW.pt (pw_and (pt_cmpR (op_dEq K hr.units) (pe_op op_dMod (pv 2) pe_int) pe_int (nomark _)) (pw_and (pt_cmpR (op_dNotIn K) (pv 3) (pv 1) (by rfl)) (pw_and1 (pt_not (q_truth K (q_call C__law_is_number tk (hr.mono (by decide)) (pa_cons (pv 3) pa_nil)))))))) (pss_one (ps_ret (pv 2))) pss_nil) (pss_one (ps_if (PW.pt (pw_and (pt_cmpR (op_dEq K hr.units) (pe_op op_dMod (pv 2) pe_int) pe_int (nomark _)) (pw_and1 (PW.pt (pw_or (pt_cmpR (op_dNotIn K) (pv 3) (pe_lst (pa_cons pe_str (pa_cons pe_str pa_nil))) (by rfl)) (pw_or1 (pt_cmpR (op_dEq K hr.units) (pv 2) pe_int (nomark _)))))))) (pss_one (ps_ret (pv 2))) pss_nil)))) (pss_one (ps_ret (pe_ifExp (pt_cmpR (op_dEq K hr.units) (pe_op op_dMod (pe_callB (cl_len K) (by rfl) T.n_len bt_len (pa_cons (pv 0) pa_nil)) pe_int) pe_int (nomark _)) (pe_callB (cl_len K) (by rfl) T.n_len bt_len (pa_cons (pv 0) pa_nil)) (pe_un un_neg pe_int))))), ?_⟩
    refine g_start (σ' := some _ :: some _ :: none :: none :: []) rfl ?_
    walk_at "go"
    refine lp_it (walk_enum (xs := toks.map V.str)) (fun i σ' H' => ∃ u v : Option V, σ' = [some (.ref p), some (.ref q), u, v] ∧ Same H H' ∧ firstBad names 0 toks = firstBad names i (toks.drop i)) ⟨none, none, rfl, Same.refl H, rfl⟩ (fun i σ' H' _ h => by
      obtain ⟨u, v, _, s1, _⟩ := h
      exact sqL_same hp s1) ?_ ?_
    · rintro i x σ' H1 H2 hi ⟨u, v, rfl, s1, hb⟩ ⟨T0, x1, y1, rfl, hT, rfl, e1, e2⟩
      cases e1
      obtain ⟨t, ht, rfl⟩ : ∃ t, toks[i]? = some t ∧ y1 = .str t := by
        have e2 : (toks.map V.str)[i]? = some y1 := e2
        rw [List.getElem?_map] at e2
        cases e : toks[i]? with
        | none => rw [e] at e2; cases e2
        | some t => rw [e] at e2; cases e2; exact ⟨t, rfl, rfl⟩
      have hat := ha t (List.mem_of_getElem? ht)
      rw [bad_drop ht] at hb
      have s2 : Same H (upd H1 T0 (.tup [.int (i : Nat), .str t])) := s1.new hT
      have hT2 : upd H1 T0 (.tup [.int (i : Nat), .str t]) T0 = some (.tup [.int (i : Nat), .str t]) := upd_same
      generalize upd H1 T0 (.tup [.int (i : Nat), .str t]) = H2 at s2 hT2 ⊢
      -- what the turn answers
      have ret : okAt names i t = false → ∀ H', Same H H' → Q (.int (i : Nat)) H' := fun hk H' s' => by
        have e : wrongL names toks = (i : Nat) := by
          unfold wrongL
          rw [hb, hk, if_neg Bool.false_ne_true]
        rw [← e]; exact k H' s'
      have nxt : okAt names i t = true → ∀ H', Same H H' → ∃ u v : Option V, [some (V.ref p), some (.ref q), some (.int (i : Nat)), some (.str t)] = [some (.ref p), some (.ref q), u, v] ∧ Same H H' ∧ firstBad names 0 toks = firstBad names (i + 1) (toks.drop (i + 1)) := fun hk H' s' => by
        refine ⟨_, _, rfl, s', ?_⟩
        rw [hb, hk, if_pos rfl]
      walk_at "go"
      refine' g_allW (α := Hp) (W := fun H3 => Same H H3 ∧ (i % 2 = 0 → okAt names i t = true)) (fun rest => ?main) ?rest
      case main =>
        refine g_iteD (fun ev => ?_) (fun ev => ?_)
        · walk_at "go"
          refine g_iteN (fun hn => ?_) (fun hn => ?_)
          · walk_at "go"
            refine ⟨t, rfl, by have := hat.1; omega, hat.2, fun H3 s3 => ?_⟩
            walk_at "go"
            cases hz : isNum t with
            | true =>
              walk_at "go"
              exact rest H3 ⟨s2.trans s3, fun _ => by unfold okAt; rw [if_pos (by omega), hz, Bool.or_true]⟩
            | false =>
              walk_at "go"
              exact ret (by unfold okAt; rw [if_pos (by omega), hz, decide_eq_false hn]; rfl) H3 (s2.trans s3)
          · walk_at "go"
            exact rest H2 ⟨s2, fun _ => by unfold okAt; rw [if_pos (by omega), decide_eq_true hn, Bool.true_or]⟩
        · walk_at "go"
          exact rest H2 ⟨s2, fun z => absurd z (by omega)⟩
      case rest =>
        rintro H3 ⟨s3, hev⟩
        walk_at "go"
        refine g_iteD (fun od => ?_) (fun od => ?_)
        · walk_at "go"
          refine al fun l hl => ?_
          have s4 : Same H (upd H3 l (.lst [.str "+", .str "-"])) := s3.new hl
          have hl4 : upd H3 l (.lst [.str "+", .str "-"]) l = some (.lst [.str "+", .str "-"]) := upd_same
          generalize upd H3 l (.lst [.str "+", .str "-"]) = H4 at s4 hl4 ⊢
          walk_at "go"
          rw [inV_ops]
          have eo : okAt names i t = (isOp t && !decide (i = 9)) := by unfold okAt; rw [if_neg (by omega)]
          cases hz : isOp t with
          | false =>
            walk_at "go"
            exact ret (by rw [eo, hz]; rfl) H4 s4
          | true =>
            walk_at "go"
            refine g_iteD (fun h9 => ?_) (fun h9 => ?_)
            · walk_at "go"
              exact ret (by rw [eo, hz, decide_eq_true (by omega)]; rfl) H4 s4
            · walk_at "go"
              exact nxt (by rw [eo, hz, decide_eq_false (by omega)]; rfl) H4 s4
        · walk_at "go"
          exact nxt (hev (by omega)) H3 s3
    · rintro σ' H1 ⟨u, v, rfl, s1, hb⟩
      rw [List.length_map, bad_end (Nat.le_refl _)] at hb
      have e : wrongL names toks = if toks.length % 2 = 0 then ((toks.length : Nat) : Int) else -1 := by unfold wrongL; rw [hb]
      walk_at "go"
      rw [e] at k
      refine g_iteD (fun ev => ?_) (fun ev => ?_)
      · rw [if_pos (by simp at ev; omega)] at k
        walk_at "go"
        have := k H1 s1
        simpa using this
      · rw [if_neg (by simp at ev; omega)] at k
        walk_at "go"
        exact k H1 s1
end
section
variable {P : Program} {w : World} {K : PySem.W.Frag} {mg : Str → Option Value} {base : Heap}
theorem ok_law_tokens {f : Addr} {fd : FuncData} (F : FnP K "_law_tokens" "_law_tokens" s_law_tokens f fd) (T : Txt K mg) (C__law_of : Cal P w K mg base 2 "_law_of" ["_law_bag", "_law_some"] (sp_law_of K)) (C__law_take : Cal P w K mg base 1 "_law_take" ["_law_bag", "_law_many"] (sp_law_take K))  : FnOk P w K mg base (L2.CX P w) 3 f fd ["_law_bag", "_law_names_here"] (sp_law_tokens K) := by
  refine F.ok sc_law_tokens (fun vs H Q E h => ?_) (fun cdv A outer s H vs Q E hr h => ?_)
  · obtain ⟨b, q, f, names, rfl, _⟩ := h
    rfl
  · have nd := sc_law_tokens.nd
    have tk := takes_of (E := E) (X := (cxOf (L2.CX P w) P w K mg base ["_law_bag", "_law_names_here", "_law_tokens_here", "_law_at", "_law_good", "_law_odd"] "_law_tokens" (defScope s_law_tokens) f cdv A outer s H E)) rfl rfl rfl rfl
    have po : PassesOwn (model P w) (cxOf (L2.CX P w) P w K mg base ["_law_bag", "_law_names_here", "_law_tokens_here", "_law_at", "_law_good", "_law_odd"] "_law_tokens" (defScope s_law_tokens) f cdv A outer s H E).A (cxOf (L2.CX P w) P w K mg base ["_law_bag", "_law_names_here", "_law_tokens_here", "_law_at", "_law_good", "_law_odd"] "_law_tokens" (defScope s_law_tokens) f cdv A outer s H E).env (cxOf (L2.CX P w) P w K mg base ["_law_bag", "_law_names_here", "_law_tokens_here", "_law_at", "_law_good", "_law_odd"] "_law_tokens" (defScope s_law_tokens) f cdv A outer s H E).xe := passes_of (X := (cxOf (L2.CX P w) P w K mg base ["_law_bag", "_law_names_here", "_law_tokens_here", "_law_at", "_law_good", "_law_odd"] "_law_tokens" (defScope s_law_tokens) f cdv A outer s H E)) rfl
    obtain ⟨b, q, f, names, rfl, hb, hq, nqb, hne, hln, ok, k⟩ := h
    obtain ⟨n0, h0, hn0⟩ : ∃ n0, atI (names.map V.str) 0 = some (.str n0) ∧ names[0]? = some n0 := by
      cases names with
      | nil => exact absurd rfl hne
      | cons a r => exact ⟨a, atI_map (i := 0) rfl, rfl⟩
    have w0 := ok 0 n0 hn0
    have w0l := w0.len
    refine ⟨_, (pss_cons (q_set 2 nd (pe_lst pa_nil)) (pss_cons (ps_for po rfl (pi_range1 rfl T.n_range (pa_cons (q_call C__law_of tk (hr.mono (by decide)) (pa_cons (pv 0) (pa_cons (pe_lst (pa_cons pe_int (pa_cons pe_int (pa_cons pe_int (pa_cons pe_int (pa_cons pe_int (pa_cons pe_int (pa_cons pe_int (pa_cons pe_int (pa_cons pe_int (pa_cons pe_int (pa_cons pe_int (pa_cons pe_int pa_nil))))))))))))) pa_nil))) pa_nil)) (q_name 3 nd) (pss_cons (q_set 4 nd (pe_ifExp (pt_cmpR (op_dEq K hr.units) (pe_op op_dMod (pv 3) pe_int) pe_int (nomark _)) (pe_op op_dAdd (pv 1) (pe_lst (pa_cons pe_str (pa_cons (pe_callTy cl_str (by rfl) T.n_str bt_str (pa_cons (q_call C__law_take tk (hr.mono (by decide)) (pa_cons (pv 0) (pa_cons pe_int pa_nil))) pa_nil)) pa_nil)))) (pe_lst (pa_cons pe_str (pa_cons pe_str pa_nil))))) (pss_cons (q_set 5 nd (pe_lst (pa_cons pe_str (pa_cons pe_str (pa_cons pe_str (pa_cons pe_str (pa_cons pe_str (pa_cons pe_str (pa_cons pe_str (pa_cons pe_str (pa_cons pe_str (pa_cons (pe_op op_dAdd (pe_ix (ix_dyn K) (pv 1) pe_int (fun _ _ => rfl)) pe_str) (pa_cons (pe_ix (ix_dyn K) (pv 1) pe_int (fun _ _ => rfl)) (pa_cons pe_str (pa_cons pe_str (pa_cons pe_str (pa_cons pe_str pa_nil))))))))))))))))) (pss_one (ps_expr (q_bm K PySem.F.plainAttrs_list PySem.F.slot_list_append PySem.F.type_list_append m_append (pv 2) (pa_cons (q_call C__law_of tk (hr.mono (by decide)) (pa_cons (pv 0) (pa_cons (pe_ifExp (pt_cmpR (op_dEq K hr.units) (q_call C__law_take tk (hr.mono (by decide)) (pa_cons (pv 0) (pa_cons pe_int pa_nil))) pe_int (nomark _)) (pv 5) (pv 4)) pa_nil))) pa_nil))))))) (pss_one (ps_ret (pv 2))))), ?_⟩
    refine g_start (σ' := some _ :: some _ :: none :: none :: none :: none :: []) rfl ?_
    walk_at "go"
    refine al fun p hp => ?_
    have npb : p ≠ b := hb.ne hp
    have nqp : q ≠ p := ne_of_none hq hp
    walk_at "go"
    refine al fun r hr => ?_
    have nrb : r ≠ b := (hb.new hp).ne hr
    refine ⟨b, r, _, rfl, (hb.new hp).new hr, upd_same, nrb, by decide, by decide, fun w H1 hw s1 b1 => ?_⟩
    obtain ⟨n, rfl, n1, n12⟩ : ∃ n : Int, w = .int n ∧ 0 ≤ n ∧ n ≤ 12 := by
      simp only [List.mem_cons, List.not_mem_nil, or_false] at hw
      rcases hw with rfl | rfl | rfl | rfl | rfl | rfl | rfl | rfl | rfl | rfl | rfl | rfl <;> exact ⟨_, rfl, by decide, by decide⟩
    have npr : p ≠ r := ne_of_none (upd_same (H := H) (o := .lst [])) hr
    have hp1 : H1 p = some (.lst []) := s1.get1 npb (by rw [upd_ne npr]; exact upd_same)
    have s2 : Sx [b] H H1 := Sx.trans (((Sx.refl H).new hp).new hr) s1
    clear s1
    walk_at "go"
    refine lp_it walk_range (fun i σ' H' => ∃ (toks : List Str) (u v x : Option V), σ' = [some (.ref b), some (.ref q), some (.ref p), u, v, x] ∧ Sx [b] H H' ∧ Bag H' b ∧ H' p = some (.lst (toks.map V.str)) ∧ toks.length = i ∧ ∀ t ∈ toks, TokOk t) ?_ (fun _ _ _ _ _ => trivial) ?_ ?_
    · exact ⟨[], none, none, none, rfl, s2, b1, hp1, rfl, fun t ht => by cases ht⟩
    · rintro i x σ' H2 H3 hi ⟨toks, u, v, x, rfl, s3, b3, hp3, hl, ht⟩ ⟨rfl, rfl⟩
      have hq3 : H3 q = some (.lst (names.map V.str)) := s3.get1 nqb hq
      walk_at "go"
      refine' g_allW2 (α := Addr) (β := Hp) (W := fun g H4 => Sx [b] H3 H4 ∧ Bag H4 b ∧ g ≠ b ∧ ∃ gs : List Str, H4 g = some (.lst (gs.map V.str)) ∧ 0 < gs.length ∧ gs.length < 1000 ∧ ∀ t ∈ gs, TokOk t) (fun rest => ?main) ?rest
      case main =>
        refine g_iteD (fun ev => ?_) (fun ev => ?_)
        · walk_at "go"
          refine ⟨b, 1000, rfl, b3, by decide, by decide, fun d H4 d0 d1 s4 b4 => ?_⟩
          walk_at "go"
          refine g_str_i (log2_1000 d0 (by omega)) ?_
          walk_at "go"
          refine al fun l hl4 => ?_
          have nlb : l ≠ b := b4.ne hl4
          have hq4 : H4 q = some (.lst (names.map V.str)) := s4.get1 nqb hq3
          refine g_addL (by walk_at "hp") upd_same (by rw [sizeLine_eq]; simp; omega) fun g hg => ?_
          have ngb : g ≠ b := (b4.new hl4).ne hg
          have w1 : Sx [b] H3 (upd (upd H4 l (.lst [.str "0", .str (toString d)])) g (.lst (names.map V.str ++ [.str "0", .str (toString d)]))) := (s4.new hl4).new hg
          have w2 : Bag (upd (upd H4 l (.lst [.str "0", .str (toString d)])) g (.lst (names.map V.str ++ [.str "0", .str (toString d)]))) b := (b4.new hl4).new hg
          have w3 : upd (upd H4 l (.lst [.str "0", .str (toString d)])) g (.lst (names.map V.str ++ [.str "0", .str (toString d)])) g = some (.lst ((names ++ (["0", (toString d : String)] : List Str)).map V.str)) := by rw [upd_same, List.map_append]; rfl
          generalize upd (upd H4 l (.lst [.str "0", .str (toString d)])) g (.lst (names.map V.str ++ [.str "0", .str (toString d)])) = H5 at w1 w2 w3 ⊢
          refine rest g H5 ⟨w1, w2, ngb, names ++ (["0", (toString d : String)] : List Str), w3, by simp, by simp; omega, fun t htt => ?_⟩
          rcases List.mem_append.mp htt with htt | htt
          · obtain ⟨j, hj⟩ := ok.mem htt
            exact hj.tok
          · simp only [List.mem_cons, List.not_mem_nil, or_false] at htt
            rcases htt with rfl | rfl
            · exact tok_of (by decide +kernel)
            · exact tok_str d0 d1
        · walk_at "go"
          refine al fun g hg => ?_
          have ngb : g ≠ b := b3.ne hg
          have w1 : Sx [b] H3 (upd H3 g (.lst [.str "+", .str "-"])) := (Sx.refl H3).new hg
          have w2 : Bag (upd H3 g (.lst [.str "+", .str "-"])) b := b3.new hg
          have w3 : upd H3 g (.lst [.str "+", .str "-"]) g = some (.lst ((["+", "-"] : List Str).map V.str)) := upd_same
          generalize upd H3 g (.lst [.str "+", .str "-"]) = H5 at w1 w2 w3 ⊢
          refine rest g H5 ⟨w1, w2, ngb, ["+", "-"], w3, by decide, by decide, fun t htt => ?_⟩
          simp only [List.mem_cons, List.not_mem_nil, or_false] at htt
          rcases htt with rfl | rfl <;> exact tok_of (by decide +kernel)
      case rest =>
        rintro g H4 ⟨s4, b4, ngb, gs, hg, g0, g1, hgs⟩
        have hq4 : H4 q = some (.lst (names.map V.str)) := s4.get1 nqb hq3
        have hp4 : H4 p = some (.lst (toks.map V.str)) := s4.get1 npb hp3
        walk_at "go"
        refine g_add_s (by rw [sizeLine_eq, show (("a" : Str)).length = 1 from rfl]; omega) ?_
        walk_at "go"
        refine al fun o ho => ?_
        have nob : o ≠ b := b4.ne ho
        have noo : ∀ v ∈ ([.str "+", .str "-", .str "=", .str "00", .str "07", .str "1000", .str "-1", .str "none", .str "given", .str (n0 ++ "a"), .str n0, .str "1", .str "A", .str "*", .str "1a"] : List V), ∃ t, v = .str t ∧ TokOk t := fun v hv => by
          simp only [List.mem_cons, List.not_mem_nil, or_false] at hv
          rcases hv with rfl | rfl | rfl | rfl | rfl | rfl | rfl | rfl | rfl | rfl | rfl | rfl | rfl | rfl | rfl
          all_goals first
            | exact ⟨_, rfl, w0.tokA⟩
            | exact ⟨_, rfl, w0.tok⟩
            | exact ⟨_, rfl, tok_of (by decide +kernel)⟩
        walk_at "go"
        refine ⟨b, 8, rfl, b4.new ho, by decide, by decide, fun d H5 d0 d1 s5 b5 => ?_⟩
        have ho5 := s5.get1 nob (upd_same (H := H4))
        have hg5 : H5 g = some (.lst (gs.map V.str)) := s5.get1 ngb (by walk_at "hp")
        have hp5 : H5 p = some (.lst (toks.map V.str)) := s5.get1 npb (by walk_at "hp")
        have s6 : Sx [b] H H5 := Sx.trans (s3.trans (s4.new ho)) s5
        clear s5
        walk_at "go"
        refine' g_allW2 (α := Str) (β := Hp) (W := fun t H6 => Sx [b] H H6 ∧ Bag H6 b ∧ H6 p = some (.lst (toks.map V.str)) ∧ TokOk t) (fun rest => ?main2) ?rest2
        case main2 =>
          refine g_iteD (fun ev => ?_) (fun ev => ?_)
          · walk_at "go"
            refine ⟨b, o, _, rfl, b5, ho5, nob, by show 0 < 15; decide, by show 15 < 2 ^ 60; decide, fun v H6 hv s7 b7 => ?_⟩
            obtain ⟨t, rfl, ht⟩ := noo v hv
            exact rest t H6 ⟨s6.trans s7, b7, s7.get1 npb hp5, ht⟩
          · walk_at "go"
            refine ⟨b, g, _, rfl, b5, hg5, ngb, by rw [List.length_map]; exact g0, by rw [List.length_map]; omega, fun v H6 hv s7 b7 => ?_⟩
            obtain ⟨t, htg, rfl⟩ := List.mem_map.mp hv
            exact rest t H6 ⟨s6.trans s7, b7, s7.get1 npb hp5, hgs t htg⟩
        case rest2 =>
          rintro t H6 ⟨s7, b7, hp7, htk⟩
          walk_at "go"
          refine ⟨toks ++ [t], _, _, _, rfl, s7.mut hp, b7.put npb.symm, by rw [upd_same, List.map_append]; rfl, by simp [hl], fun y hy => ?_⟩
          rcases List.mem_append.mp hy with hy | hy
          · exact ht y hy
          · simp at hy; subst hy; exact htk
    · rintro σ' H2 ⟨toks, u, v, x, rfl, s3, b3, hp3, hl, ht⟩
      walk_at "go"
      exact k p toks H2 s3 b3 hp hp3 (by omega) ht
end
section
variable {P : Program} {w : World} {K : PySem.W.Frag} {mg : Str → Option Value} {base : Heap}
theorem ok_law_told {f : Addr} {fd : FuncData} (F : FnP K "_law_told" "_law_told" s_law_told f fd) (T : Txt K mg) (M_Sum : MkC P w K mg base 3 "Sum" (He.ga K "Sum") ["self", "text", "names"] (sp_Sum___init__ K))  : FnOk P w K mg base (L2.CX P w) 5 f fd ["_law_text", "_law_names_here"] (sp_law_told K) := by
  refine F.ok sc_law_told (fun vs H Q E h => ?_) (fun cdv A outer s H vs Q E hr h => ?_)
  · obtain ⟨q, text, names, rfl, _⟩ := h
    rfl
  · have nd := sc_law_told.nd
    have tk := takes_of (E := E) (X := (cxOf (L2.CX P w) P w K mg base ["_law_text", "_law_names_here", "e"] "_law_told" (defScope s_law_told) f cdv A outer s H E)) rfl rfl rfl rfl
    have po : PassesOwn (model P w) (cxOf (L2.CX P w) P w K mg base ["_law_text", "_law_names_here", "e"] "_law_told" (defScope s_law_told) f cdv A outer s H E).A (cxOf (L2.CX P w) P w K mg base ["_law_text", "_law_names_here", "e"] "_law_told" (defScope s_law_told) f cdv A outer s H E).env (cxOf (L2.CX P w) P w K mg base ["_law_text", "_law_names_here", "e"] "_law_told" (defScope s_law_told) f cdv A outer s H E).xe := passes_of (X := (cxOf (L2.CX P w) P w K mg base ["_law_text", "_law_names_here", "e"] "_law_told" (defScope s_law_told) f cdv A outer s H E)) rfl
    obtain ⟨q, text, names, rfl, hq, hne, hl, k⟩ := h
    refine ⟨_, (pss_cons (ps_try_as (i := 2) rfl rfl nd rfl rfl ⟨rfl, by decide, Or.inl T.m_NowlaterError⟩ tk (fun W1 pn1 xe1 tk1 po1 => (pss_one (ps_expr (q_make M_Sum tk1 (hr.mono (by decide)) (pa_cons (pv 0) (pa_cons (pv 1) pa_nil)))))) (fun a1 oe1 cls1 d1 pn1 hz1 hf1 => (pss_cons (ps_if (PW.pt (pw_or (pt_not (q_truth K (pe_callB (cl_isX K hz1 hf1) (by rfl) T.n_isinstance bt_isinstance (pa_cons (pv 2) (pa_cons (q_glob T.g_BadSum) pa_nil))))) (pw_or (q_truth K (pe_callB (cl_isX K hz1 hf1) (by rfl) T.n_isinstance bt_isinstance (pa_cons (pv 2) (pa_cons (q_glob T.g_BadCondition) pa_nil)))) (pw_or1 (pt_not (q_truth K (pe_callB (cl_isX K hz1 hf1) (by rfl) T.n_isinstance bt_isinstance (pa_cons (pv 2) (pa_cons (q_bltn T.n_ValueError bt_ValueError) pa_nil))))))))) (pss_one (ps_ret (pe_un un_neg pe_int))) pss_nil) (pss_one (ps_ret (pe_xfD K hz1 hf1 (pv 2))))))) (pss_one (ps_ret (pe_un un_neg pe_int)))), ?_⟩
    refine g_start (σ' := some _ :: some _ :: none :: []) rfl ?_
    walk_at "go"
    intro x dx hx hdx hxd
    have s1 : Same H (upd (upd H dx (.own x)) x (.ins (He.ga K "Sum") dx [])) := ((Same.refl H).new hdx).mut hx
    refine ⟨x, dx, q, text, names, rfl, upd_same, sqL_same hq s1, hne, hl, ?_, ?_⟩
    · intro n hb hn d H1 s2 hd0 hd
      have s3 : Same H H1 := s1.trans s2
      have et : toldOf names (Txt.words text) = (n : Nat) := by
        unfold toldOf
        rcases e : readS names (Txt.words text) 5 0 1 [] with ⟨_ | ts, m⟩
        · rw [e] at hn; cases hn; rfl
        · rw [e] at hn hb
          cases hn
          rcases hb with hb | hb
          · cases hb
          · show (if m < _ then _ else _) = _
            rw [if_pos hb]
      rw [et] at k
      refine ⟨true, T.x_exm, fun _ a1 ha1 => ?_, fun z => by cases z⟩
      walk_at "go"
      refine ⟨He.ga K "BadSum", d, _, _, _, _, rfl, rfl, rfl, hd, T.x_c, ClsV.own _, T.x_k1, ?_⟩
      walk_at "go"
      refine ⟨He.ga K "BadSum", d, _, _, _, _, rfl, rfl, rfl, hd, T.x_c, ClsV.own _, T.x_k2, ?_⟩
      walk_at "go"
      refine ⟨He.ga K "BadSum", d, _, _, _, _, rfl, rfl, rfl, hd, T.x_c, ClsV.ty _, T.x_k3, ?_⟩
      walk_at "go"
      refine ⟨_, rfl, rfl, He.ga K "BadSum", d, _, _, rfl, T.x_f, T.x_no, rfl, hd, rfl, ?_⟩
      exact k H1 s3
    · intro ts H1 e s2 hS
      refine ⟨rfl, ?_⟩
      have et : toldOf names (Txt.words text) = -1 := by
        unfold toldOf
        rw [e]
        show (if _ < _ then _ else _) = _
        rw [if_neg (Nat.lt_irrefl _)]
      rw [et] at k
      walk_at "go"
      exact k H1 (fun a o ea => s2 a o (by simpa using (ne_of_none ea hx)) (s1 a o ea))
end
section
variable {P : Program} {w : World} {K : PySem.W.Frag} {mg : Str → Option Value} {base : Heap}
theorem ok_law {f : Addr} {fd : FuncData} (F : FnP K "law" "law" s_law f fd) (T : Txt K mg) (C__law_names : Cal P w K mg base 3 "_law_names" ["_law_bag", "_law_many"] (sp_law_names K)) (C__law_of : Cal P w K mg base 2 "_law_of" ["_law_bag", "_law_some"] (sp_law_of K)) (C__law_seed : Cal P w K mg base 1 "_law_seed" ["_law_script", "_law_at"] (sp_law_seed K)) (C__law_take : Cal P w K mg base 1 "_law_take" ["_law_bag", "_law_many"] (sp_law_take K)) (C__law_tokens : Cal P w K mg base 3 "_law_tokens" ["_law_bag", "_law_names_here"] (sp_law_tokens K)) (C__law_told : Cal P w K mg base 5 "_law_told" ["_law_text", "_law_names_here"] (sp_law_told K)) (C__law_wrong : Cal P w K mg base 2 "_law_wrong" ["_law_tokens_here", "_law_names_here"] (sp_law_wrong K))  : FnOk P w K mg base (L2.CX P w) 6 f fd ["_law_script"] (sp_law K) := by
  refine F.ok sc_law (fun vs H Q E h => ?_) (fun cdv A outer s H vs Q E hr h => ?_)
  · obtain ⟨a, ns, rfl, _⟩ := h
    rfl
  · have nd := sc_law.nd
    have tk := takes_of (E := E) (X := (cxOf (L2.CX P w) P w K mg base ["_law_script", "_law_at", "_law_bag", "_law_names_here", "_law_tokens_here", "_law_due", "_law_blanks", "_law_told_here", "_law_begin"] "law" (defScope s_law) f cdv A outer s H E)) rfl rfl rfl rfl
    have po : PassesOwn (model P w) (cxOf (L2.CX P w) P w K mg base ["_law_script", "_law_at", "_law_bag", "_law_names_here", "_law_tokens_here", "_law_due", "_law_blanks", "_law_told_here", "_law_begin"] "law" (defScope s_law) f cdv A outer s H E).A (cxOf (L2.CX P w) P w K mg base ["_law_script", "_law_at", "_law_bag", "_law_names_here", "_law_tokens_here", "_law_due", "_law_blanks", "_law_told_here", "_law_begin"] "law" (defScope s_law) f cdv A outer s H E).env (cxOf (L2.CX P w) P w K mg base ["_law_script", "_law_at", "_law_bag", "_law_names_here", "_law_tokens_here", "_law_due", "_law_blanks", "_law_told_here", "_law_begin"] "law" (defScope s_law) f cdv A outer s H E).xe := passes_of (X := (cxOf (L2.CX P w) P w K mg base ["_law_script", "_law_at", "_law_bag", "_law_names_here", "_law_tokens_here", "_law_due", "_law_blanks", "_law_told_here", "_law_begin"] "law" (defScope s_law) f cdv A outer s H E)) rfl
    obtain ⟨a, ns, rfl, hS, hl, hbits, k⟩ := h
    refine ⟨_, (pss_cons (ps_for po rfl (pi_range1 rfl T.n_range (pa_cons (pe_callB (cl_max rfl) (by rfl) T.n_max bt_max (pa_cons pe_int (pa_cons (pe_callB (cl_min rfl) (by rfl) T.n_min bt_min (pa_cons pe_int (pa_cons (pe_callB (cl_len K) (by rfl) T.n_len bt_len (pa_cons (pv 0) pa_nil)) pa_nil))) pa_nil))) pa_nil)) (q_name 1 nd) (pss_cons (q_set 2 nd (q_call C__law_seed tk (hr.mono (by decide)) (pa_cons (pv 0) (pa_cons (pv 1) pa_nil)))) (pss_cons (q_set 3 nd (q_call C__law_names tk (hr.mono (by decide)) (pa_cons (pv 2) (pa_cons (pe_op op_dAdd pe_int (q_call C__law_take tk (hr.mono (by decide)) (pa_cons (pv 2) (pa_cons pe_int pa_nil)))) pa_nil)))) (pss_cons (q_set 4 nd (q_call C__law_tokens tk (hr.mono (by decide)) (pa_cons (pv 2) (pa_cons (pv 3) pa_nil)))) (pss_cons (q_set 5 nd (q_call C__law_wrong tk (hr.mono (by decide)) (pa_cons (pv 4) (pa_cons (pv 3) pa_nil)))) (pss_cons (q_set 6 nd (q_call C__law_of tk (hr.mono (by decide)) (pa_cons (pv 2) (pa_cons (pe_lst (pa_cons pe_str (pa_cons pe_str pa_nil))) pa_nil)))) (pss_cons (q_set 7 nd (q_call C__law_told tk (hr.mono (by decide)) (pa_cons (pe_op op_dAdd (q_bm K PySem.F.plainAttrs_str PySem.F.slot_str_join PySem.F.type_str_join (m_join K) (pv 6) (pa_cons (pv 4) pa_nil)) (q_call C__law_of tk (hr.mono (by decide)) (pa_cons (pv 2) (pa_cons (pe_lst (pa_cons pe_str (pa_cons pe_str pa_nil))) pa_nil)))) (pa_cons (pe_callTy (cl_list K) (by rfl) T.n_list bt_list (pa_cons (pv 3) pa_nil)) pa_nil)))) (pss_cons (ps_if (PW.pt (pw_or (q_truth K (pe_callB (cl_isinstance K) (by rfl) T.n_isinstance bt_isinstance (pa_cons (pv 7) (pa_cons (q_bltn T.n_bool bt_bool) pa_nil)))) (pw_or1 (pt_cmpR (op_dNe K hr.units) (pv 7) (pv 5) (nomark _))))) (pss_one (ps_ret pe_bl)) pss_nil) (pss_one (ps_if (pt_cmpR op_dGt (pv 5) pe_int (nomark _)) (pss_cons (q_set 8 nd (pe_slice (sl_dyn K) (pv 4) po_none (po_some (pe_op op_dAdd (pe_op op_dSub (pv 5) pe_int) (pe_op op_dMod (pv 5) pe_int))))) (pss_one (ps_if (PW.pt (pw_or (pt_cmpR (op_dNe K hr.units) (q_call C__law_told tk (hr.mono (by decide)) (pa_cons (q_bm K PySem.F.plainAttrs_str PySem.F.slot_str_join PySem.F.type_str_join (m_join K) pe_str (pa_cons (pv 8) pa_nil)) (pa_cons (pv 3) pa_nil))) (pe_un un_neg pe_int) (nomark _)) (pw_or1 (pt_cmpR (op_dNe K hr.units) (q_call C__law_told tk (hr.mono (by decide)) (pa_cons (q_bm K PySem.F.plainAttrs_str PySem.F.slot_str_join PySem.F.type_str_join (m_join K) pe_str (pa_cons (pv 4) pa_nil)) (pa_cons (pv 3) pa_nil))) (pv 5) (nomark _))))) (pss_one (ps_ret pe_bl)) pss_nil))) pss_nil)))))))))) (pss_one (ps_ret pe_bl))), ?_⟩
    refine g_start (σ' := some _ :: none :: none :: none :: none :: none :: none :: none :: none :: []) rfl ?_
    walk_at "go"
    refine lp_it walk_range (fun i σ' H' => ∃ u1 u2 u3 u4 u5 u6 u7 u8 : Option V, σ' = [some (.ref a), u1, u2, u3, u4, u5, u6, u7, u8] ∧ Same H H') ⟨_, _, _, _, _, _, _, _, rfl, Same.refl H⟩ (fun _ _ _ _ _ => trivial) ?_ ?_
    · rintro i x σ' H1 H2 hi ⟨u1, u2, u3, u4, u5, u6, u7, u8, rfl, s0⟩ ⟨rfl, rfl⟩
      walk_at "go"
      refine ⟨a, ns, _, rfl, sqL_same hS s0, by omega, fun b H3 s1 hb0 hb => ?_⟩
      walk_at "go"
      refine ⟨b, 3, rfl, hb, by decide, by decide, fun d H4 d0 d1 s2 b2 => ?_⟩
      walk_at "go"
      refine ⟨b, (2 + d).toNat, by rw [show (((2 + d).toNat : Nat) : Int) = 2 + d by omega], b2, by omega, fun q f names H5 s3 b3 hq0 hq hlen ok => ?_⟩
      have nqb : q ≠ b := b2.ne hq0
      have hne : names ≠ [] := fun z => by rw [z] at hlen; simp at hlen; omega
      walk_at "go"
      refine ⟨b, q, f, names, rfl, b3, hq, nqb, hne, by omega, ok, fun p toks H6 s4 b4 hp0 hp htl htk => ?_⟩
      have npb : p ≠ b := b3.ne hp0
      have hq6 := s4.get1 nqb hq
      walk_at "go"
      refine ⟨p, q, toks, names, rfl, SqL.of hp, SqL.of hq6, fun t ht => (htk t ht).asc, fun H7 s5 => ?_⟩
      have hp7 := s5 _ _ hp
      have hq7 := s5 _ _ hq6
      obtain ⟨bx, by_, hb7⟩ := b4
      have b7 : Bag H7 b := ⟨bx, by_, s5 _ _ hb7⟩
      walk_at "go"
      refine al fun g hg => ?_
      have ngb : g ≠ b := b7.ne hg
      refine ⟨b, g, _, rfl, b7.new hg, upd_same, ngb, by decide, by decide, fun v H8 hv s6 b8 => ?_⟩
      obtain ⟨sep, rfl, hsep, hsep0, hsepl⟩ : ∃ sep : Str, v = .str sep ∧ Bl sep ∧ sep.cps.toList ≠ [] ∧ sep.length ≤ 2 := by
        simp only [List.mem_cons, List.not_mem_nil, or_false] at hv
        rcases hv with rfl | rfl <;> exact ⟨_, rfl, by unfold Bl; decide, by decide, by decide⟩
      have hp8 : H8 p = some (.lst (toks.map V.str)) := s6.get1 npb (by walk_at "hp")
      have hq8 : H8 q = some (.lst (names.map V.str)) := s6.get1 nqb (by walk_at "hp")
      have sumle : (toks.map (·.length)).sum ≤ toks.length * 20 := sum_len_le fun t ht => (htk t ht).2
      have hjl : ∀ (s : Str) (ts : List Str), s.length ≤ 2 → ts.length ≤ 12 → (∀ t ∈ ts, TokOk t) → (ts.map (·.length)).sum + ts.length * s.length ≤ 16777216 ∧ (Txt.join s ts).length ≤ 300 := fun s ts h1 h2 h3 => by
        have e1 := sum_len_le (B := 20) fun t ht => (h3 t ht).2
        have e2 := join_len_le s 20 ts fun t ht => (h3 t ht).2
        have e3 : ts.length * s.length ≤ 12 * 2 := Nat.mul_le_mul h2 h1
        have e4 : ts.length * (20 + s.length) ≤ 12 * 22 := Nat.mul_le_mul h2 (by omega)
        rw [join_txt]
        omega
      walk_at "go"
      refine g_join (Or.inl (SqL.of hp8)) (hjl sep toks hsepl htl htk).1 ?_
      walk_at "go"
      refine al fun g2 hg2 => ?_
      have ngb2 : g2 ≠ b := b8.ne hg2
      refine ⟨b, g2, _, rfl, b8.new hg2, upd_same, ngb2, by decide, by decide, fun v H9 hv2 s7 b9 => ?_⟩
      obtain ⟨tail, rfl, htail, htaill⟩ : ∃ sep : Str, v = .str sep ∧ Bl sep ∧ sep.length ≤ 2 := by
        simp only [List.mem_cons, List.not_mem_nil, or_false] at hv2
        rcases hv2 with rfl | rfl <;> exact ⟨_, rfl, by unfold Bl; decide, by decide⟩
      have hp9 : H9 p = some (.lst (toks.map V.str)) := s7.get1 npb (by walk_at "hp")
      have hq9 : H9 q = some (.lst (names.map V.str)) := s7.get1 nqb (by walk_at "hp")
      have hj1 := (hjl sep toks hsepl htl htk).2
      refine g_add_s (by rw [sizeLine_eq]; omega) ?_
      walk_at "go"
      intro l hl9
      have hbn : H b = none := s0.free hb0
      have st : ∀ {Hx Hy : Hp}, Same H Hx → Sx [b] Hx Hy → Same H Hy := fun h1 h2 => Sx.drop1 h1 hbn h2
      have sA : Same H (upd H9 l (.lst (names.map V.str))) := (st ((st ((st (st (st (s0.trans s1) s2) s3) s4 |>.trans s5).new hg) s6).new hg2) s7).new hl9
      have hno : ("" : Str) ∉ names := ok.no_empty
      have wj : ∀ (s t : Str) (ts : List Str), Bl s → s.cps.toList ≠ [] → Bl t → (∀ u ∈ ts, TokOk u) → Txt.words (Txt.join s ts ++ t) = ts := fun s t ts h1 h2 h3 h4 => by
        rw [join_txt]
        exact words_join0 h1 h2 h3 fun u hu => (h4 u hu).1
      walk_at "go"
      refine ⟨l, Txt.join sep toks ++ tail, names, rfl, SqL.of upd_same, hno, by rw [Str.length_append]; omega, fun H10 sB => ?_⟩
      rw [wj sep tail toks hsep hsep0 htail htk, told_wrong hno]
      have hp10 : H10 p = some (.lst (toks.map V.str)) := sB _ _ (by walk_at "hp")
      have hq10 : H10 q = some (.lst (names.map V.str)) := sB _ _ (by walk_at "hp")
      have sC := sA.trans sB
      generalize hw : wrongL names toks = due
      walk_at "go"
      refine ⟨_, _, _, _, false, rfl, .ty _, .base (.int _), by rfl, ?_⟩
      walk_at "go"
      rw [show (!decide (due = due)) = false by simp]
      walk_at "go"
      refine g_iteD (fun hpos => ?_) (fun hpos => ?_)
      · subst hw
        have hm2 := Int.emod_nonneg (wrongL names toks) (by decide : (2 : Int) ≠ 0)
        walk_at "go"
        rw [cutV_to (by omega)]
        intro l2 hl2
        walk_at "go"
        generalize hts : toks.take (wrongL names toks - 1 + wrongL names toks % 2).toNat = ts
        have tsl : ts.length ≤ 12 := by rw [← hts, List.length_take]; omega
        have tsk : ∀ t ∈ ts, TokOk t := fun t ht => htk t (by rw [← hts] at ht; exact List.mem_of_mem_take ht)
        have wts : wrongL names ts = -1 := by rw [← hts]; exact wrong_begin hpos
        have hB : Bl " " := by unfold Bl; decide
        have hE : Bl "" := by unfold Bl; decide
        have wj0 : ∀ us : List Str, (∀ u ∈ us, TokOk u) → Txt.words (Txt.join " " us) = us := fun us h => by
          have := wj " " "" us hB (by decide) hE h
          rwa [show Txt.join " " us ++ ("" : Str) = Txt.join " " us from str_eq (by rw [Str.cps_append, show (("" : Str)).cps = #[] from rfl, Array.append_empty])] at this
        refine g_join (Or.inl (SqL.of upd_same)) (hjl " " ts (by decide) tsl tsk).1 ?_
        have hj2 := (hjl " " ts (by decide) tsl tsk).2
        have hj3 := (hjl " " toks (by decide) htl htk).2
        walk_at "go"
        refine ⟨q, Txt.join " " ts, names, rfl, SqL.of (by walk_at "hp"), hno, by omega, fun H11 sD => ?_⟩
        have hp11 : H11 p = some (.lst (toks.map V.str)) := sD _ _ (by walk_at "hp")
        have hq11 : H11 q = some (.lst (names.map V.str)) := sD _ _ (by walk_at "hp")
        rw [wj0 ts tsk, told_wrong hno, wts]
        walk_at "go"
        rw [show (!decide ((-1 : Int) = -1)) = false by simp]
        walk_at "go"
        refine g_join (Or.inl (SqL.of hp11)) (hjl " " toks (by decide) htl htk).1 ?_
        walk_at "go"
        refine ⟨q, Txt.join " " toks, names, rfl, SqL.of hq11, hno, by omega, fun H12 sE => ?_⟩
        rw [wj0 toks htk, told_wrong hno]
        walk_at "go"
        rw [show (!decide (wrongL names toks = wrongL names toks)) = false by simp]
        walk_at "go"
        exact ⟨_, _, _, _, _, _, _, _, rfl, ((sC.new hl2).trans sD).trans sE⟩
      · walk_at "go"
        exact ⟨_, _, _, _, _, _, _, _, rfl, sC⟩
    · rintro σ' H1 ⟨u1, u2, u3, u4, u5, u6, u7, u8, rfl, s0⟩
      walk_at "go"
      exact k H1
end
def fxs : List Fx := [.fa (.glo "BadCondition"),
  .fa (.glo "BadSum"),
  .fa (.int "MOST_TERMS" 5),
  .fa (.glo "NowlaterError"),
  .fa (.glo "Sum"),
  .fa (.free "ValueError"),
  .fa (.glo "_law_is_number"),
  .fa (.glo "_law_names"),
  .fa (.glo "_law_of"),
  .fa (.glo "_law_seed"),
  .fa (.glo "_law_take"),
  .fa (.glo "_law_tokens"),
  .fa (.glo "_law_told"),
  .fa (.glo "_law_wrong"),
  .fa (.free "abs"),
  .fa (.free "bool"),
  .fa (.free "enumerate"),
  .fa (.free "int"),
  .fa (.glo "is_number"),
  .fa (.free "isinstance"),
  .fa (.free "len"),
  .fa (.free "list"),
  .fa (.free "max"),
  .fa (.free "min"),
  .fa (.free "range"),
  .fa (.glo "read_sum"),
  .fa (.free "str"),
  .oex "BadSum",
  .fnI "BadSum",
  .fa (.noat "BadSum" "at"),
  .fa (.cls "Sum"),
  .fa (.mkr "Sum"),
  .fa (.noat "Sum" "terms"),
  .fa (.noat "Sum" "shown"),
  .fa (.glo "law"),
  .fa (.exm "BadSum" "NowlaterError" true),
  .kit "BadSum" (.own "BadSum") true,
  .kit "BadSum" (.own "BadCondition") false,
  .kit "BadSum" (.ty "ValueError") true,
  .excC "BadSum",
  .xf "BadSum"]
def d_BadSum___init__ : He.DefD := ⟨("BadSum", some "__init__"), "__init__", "BadSum.__init__", defArgs s_BadSum___init__, defBody s_BadSum___init__, defScope s_BadSum___init__, [], []⟩
def d_law_seed : He.DefD := ⟨("_law_seed", none), "_law_seed", "_law_seed", defArgs s_law_seed, defBody s_law_seed, defScope s_law_seed, [], []⟩
def d_law_take : He.DefD := ⟨("_law_take", none), "_law_take", "_law_take", defArgs s_law_take, defBody s_law_take, defScope s_law_take, [], []⟩
def d_law_of : He.DefD := ⟨("_law_of", none), "_law_of", "_law_of", defArgs s_law_of, defBody s_law_of, defScope s_law_of, [], []⟩
def d_is_number : He.DefD := ⟨("is_number", none), "is_number", "is_number", defArgs s_is_number, defBody s_is_number, defScope s_is_number, [], []⟩
def d_read_sum : He.DefD := ⟨("read_sum", none), "read_sum", "read_sum", defArgs s_read_sum, defBody s_read_sum, defScope s_read_sum, [], []⟩
def d_Sum___init__ : He.DefD := ⟨("Sum", some "__init__"), "__init__", "Sum.__init__", defArgs s_Sum___init__, defBody s_Sum___init__, defScope s_Sum___init__, [], []⟩
def d_law_names : He.DefD := ⟨("_law_names", none), "_law_names", "_law_names", defArgs s_law_names, defBody s_law_names, defScope s_law_names, [], []⟩
def d_law_is_number : He.DefD := ⟨("_law_is_number", none), "_law_is_number", "_law_is_number", defArgs s_law_is_number, defBody s_law_is_number, defScope s_law_is_number, [], []⟩
def d_law_wrong : He.DefD := ⟨("_law_wrong", none), "_law_wrong", "_law_wrong", defArgs s_law_wrong, defBody s_law_wrong, defScope s_law_wrong, [], []⟩
def d_law_tokens : He.DefD := ⟨("_law_tokens", none), "_law_tokens", "_law_tokens", defArgs s_law_tokens, defBody s_law_tokens, defScope s_law_tokens, [], []⟩
def d_law_told : He.DefD := ⟨("_law_told", none), "_law_told", "_law_told", defArgs s_law_told, defBody s_law_told, defScope s_law_told, [], []⟩
def d_law : He.DefD := ⟨("law", none), "law", "law", defArgs s_law, defBody s_law, defScope s_law, [], []⟩
def fns : List He.DefD := [d_BadSum___init__, d_law_seed, d_law_take, d_law_of, d_is_number, d_read_sum, d_Sum___init__, d_law_names, d_law_is_number, d_law_wrong, d_law_tokens, d_law_told, d_law]
def tfs : List He.Defn := []
abbrev RR : PySem.W.OpenRow := PySem.W.OpenLaw.row PySem.Challenge.rw_nowlater_k02_sums_refused
abbrev hk : PySem.W.Hook := He.hookX 5 [] fns [] tfs (fxB fxs)
def ob (s : PySem.W.SharedT) : He.AlX := He.obsX 5 [] fns [] tfs (fxB fxs) (HandSHeadRun.getT s)
theorem ob_eq (s : PySem.W.SharedT) : ob s = hk.obs s.abs := He.obsX_eq (HandSHeadRun.getT_eq s)
def loose0 : List PySem.Str := ["_wall", "NowlaterError", "BadSum", "BadCondition", "MOST_TERMS", "is_number", "Sum", "sum_of", "read_sum", "_law_seed", "_law_take", "_law_of", "_law_names", "_law_is_number", "_law_wrong", "_law_tokens", "_law_told"]
abbrev loose : List PySem.Str := loose0
theorem run (w : World) : HandSHeadRun.RunEq RR (PySem.W.view RR.prog [20]) hk ob 6000 loose w := by
  intro os
  kernel_rfl
theorem facts {P : Program} {w : World} {K : PySem.W.Frag} {h : Heap} {mg : Str → Option Value} {f : Addr} (X : K.In h) (G : h.Ns mainGlobals mg) (hfa : mg ("law" : Str) = some (.ref f)) (S : He.SaysX [] fns [] tfs (fxB fxs) w h K) :
    ∃ fd : FuncData, (∀ (s : Shared) (v : Value), BindsTo s fd ⟨[v], []⟩ [("_law_script", v)]) ∧ ∀ base : Heap, K.In base → base.Ns mainGlobals mg → FnOk P w K mg base (L2.CX P w) 6 f fd ["_law_script"] (sp_law K) := by
  have c : fxB fxs K = true := S.more
  obtain ⟨fd_BadSum___init__, F_BadSum___init__⟩ := S.t.d.def_ 0 (d := d_BadSum___init__) rfl
  obtain ⟨fd_law_seed, F_law_seed⟩ := S.t.d.def_ 1 (d := d_law_seed) rfl
  obtain ⟨fd_law_take, F_law_take⟩ := S.t.d.def_ 2 (d := d_law_take) rfl
  obtain ⟨fd_law_of, F_law_of⟩ := S.t.d.def_ 3 (d := d_law_of) rfl
  obtain ⟨fd_is_number, F_is_number⟩ := S.t.d.def_ 4 (d := d_is_number) rfl
  obtain ⟨fd_read_sum, F_read_sum⟩ := S.t.d.def_ 5 (d := d_read_sum) rfl
  obtain ⟨fd_Sum___init__, F_Sum___init__⟩ := S.t.d.def_ 6 (d := d_Sum___init__) rfl
  obtain ⟨fd_law_names, F_law_names⟩ := S.t.d.def_ 7 (d := d_law_names) rfl
  obtain ⟨fd_law_is_number, F_law_is_number⟩ := S.t.d.def_ 8 (d := d_law_is_number) rfl
  obtain ⟨fd_law_wrong, F_law_wrong⟩ := S.t.d.def_ 9 (d := d_law_wrong) rfl
  obtain ⟨fd_law_tokens, F_law_tokens⟩ := S.t.d.def_ 10 (d := d_law_tokens) rfl
  obtain ⟨fd_law_told, F_law_told⟩ := S.t.d.def_ 11 (d := d_law_told) rfl
  obtain ⟨fd_law, F_law⟩ := S.t.d.def_ 12 (d := d_law) rfl
  have T : Txt K mg := ⟨fx_free X G c 5, fx_free X G c 14, fx_free X G c 15, fx_free X G c 16, fx_free X G c 17, fx_free X G c 19, fx_free X G c 20, fx_free X G c 21, fx_free X G c 22, fx_free X G c 23, fx_free X G c 24, fx_free X G c 26, fx_int X G c 2, ⟨_, fx_glo X G c 0, rfl⟩, fx_glo X G c 0, ⟨_, fx_glo X G c 1, rfl⟩, fx_glo X G c 1, ⟨_, fx_glo X G c 3, rfl⟩, fx_glo X G c 3, ⟨_, fx_glo X G c 4, rfl⟩, fx_glo X G c 4, fx_cls c 30, fx_noat c 32, fx_noat c 33, fx_exm c 35, fx_kit c 36, fx_kit c 37, fx_kit c 38, fx_exc c 39, fx_xf c 40, fx_noat c 29⟩
  have e := hfa.symm.trans (fx_glo X G c 34)
  cases e
  have b_BadSum___init__ := FunD.bindsN (ps := ["self", "at"]) F_BadSum___init__ fun _ _ _ _ _ _ us hl => match us, hl with | [_, _], _ => rfl
  have b_law_seed := FunD.bindsN (ps := ["_law_script", "_law_at"]) F_law_seed fun _ _ _ _ _ _ us hl => match us, hl with | [_, _], _ => rfl
  have b_law_take := FunD.bindsN (ps := ["_law_bag", "_law_many"]) F_law_take fun _ _ _ _ _ _ us hl => match us, hl with | [_, _], _ => rfl
  have b_law_of := FunD.bindsN (ps := ["_law_bag", "_law_some"]) F_law_of fun _ _ _ _ _ _ us hl => match us, hl with | [_, _], _ => rfl
  have b_is_number := FunD.bindsN (ps := ["token"]) F_is_number fun _ _ _ _ _ _ us hl => match us, hl with | [_], _ => rfl
  have b_read_sum := FunD.bindsN (ps := ["tokens", "start", "names"]) F_read_sum fun _ _ _ _ _ _ us hl => match us, hl with | [_, _, _], _ => rfl
  have b_Sum___init__ := FunD.bindsN (ps := ["self", "text", "names"]) F_Sum___init__ fun _ _ _ _ _ _ us hl => match us, hl with | [_, _, _], _ => rfl
  have b_law_names := FunD.bindsN (ps := ["_law_bag", "_law_many"]) F_law_names fun _ _ _ _ _ _ us hl => match us, hl with | [_, _], _ => rfl
  have b_law_is_number := FunD.bindsN (ps := ["_law_token"]) F_law_is_number fun _ _ _ _ _ _ us hl => match us, hl with | [_], _ => rfl
  have b_law_wrong := FunD.bindsN (ps := ["_law_tokens_here", "_law_names_here"]) F_law_wrong fun _ _ _ _ _ _ us hl => match us, hl with | [_, _], _ => rfl
  have b_law_tokens := FunD.bindsN (ps := ["_law_bag", "_law_names_here"]) F_law_tokens fun _ _ _ _ _ _ us hl => match us, hl with | [_, _], _ => rfl
  have b_law_told := FunD.bindsN (ps := ["_law_text", "_law_names_here"]) F_law_told fun _ _ _ _ _ _ us hl => match us, hl with | [_, _], _ => rfl
  have b_law := FunD.bindsN (ps := ["_law_script"]) F_law fun _ _ _ _ _ _ us hl => match us, hl with | [_], _ => rfl
  have bA := FunD.bindsA (ps := ["_law_script"]) F_law fun _ _ _ _ _ _ us hl => match us, hl with | [_], _ => rfl
  refine ⟨fd_law, fun s v => bA s [v] rfl, fun base _ _ => ?_⟩
  have X_BadSum : XC P w K mg base 1 "BadSum" "at" (He.ga K "BadSum") := ⟨fx_glo X G c 1, fx_oex c 27, fx_noat c 29, _, fd_BadSum___init__, _, (fx_fnI c 28).1, (fx_fnI c 28).2, b_BadSum___init__, ok_BadSum___init__ F_BadSum___init__ (fx_oex c 27) (fx_noat c 29)⟩
  have C__law_seed : Cal P w K mg base 1 "_law_seed" ["_law_script", "_law_at"] (sp_law_seed K) := ⟨_, fd_law_seed, fx_glo X G c 9, F_law_seed.kp, b_law_seed, ok_law_seed (P := P) (w := w) (base := base) F_law_seed T ⟩
  have C__law_take : Cal P w K mg base 1 "_law_take" ["_law_bag", "_law_many"] (sp_law_take K) := ⟨_, fd_law_take, fx_glo X G c 10, F_law_take.kp, b_law_take, ok_law_take (P := P) (w := w) (base := base) F_law_take T ⟩
  have C_is_number : Cal P w K mg base 1 "is_number" ["token"] (sp_is_number K) := ⟨_, fd_is_number, fx_glo X G c 18, F_is_number.kp, b_is_number, ok_is_number (P := P) (w := w) (base := base) F_is_number T ⟩
  have C__law_is_number : Cal P w K mg base 1 "_law_is_number" ["_law_token"] (sp_law_is_number K) := ⟨_, fd_law_is_number, fx_glo X G c 6, F_law_is_number.kp, b_law_is_number, ok_law_is_number (P := P) (w := w) (base := base) F_law_is_number T ⟩
  have C__law_of : Cal P w K mg base 2 "_law_of" ["_law_bag", "_law_some"] (sp_law_of K) := ⟨_, fd_law_of, fx_glo X G c 8, F_law_of.kp, b_law_of, ok_law_of (P := P) (w := w) (base := base) F_law_of T C__law_take⟩
  have C_read_sum : Cal P w K mg base 2 "read_sum" ["tokens", "start", "names"] (sp_read_sum K) := ⟨_, fd_read_sum, fx_glo X G c 25, F_read_sum.kp, b_read_sum, ok_read_sum (P := P) (w := w) (base := base) F_read_sum T C_is_number⟩
  have C__law_wrong : Cal P w K mg base 2 "_law_wrong" ["_law_tokens_here", "_law_names_here"] (sp_law_wrong K) := ⟨_, fd_law_wrong, fx_glo X G c 13, F_law_wrong.kp, b_law_wrong, ok_law_wrong (P := P) (w := w) (base := base) F_law_wrong T C__law_is_number⟩
  have M_Sum : MkC P w K mg base 3 "Sum" (He.ga K "Sum") ["self", "text", "names"] (sp_Sum___init__ K) := ⟨fx_glo X G c 4, _, fd_Sum___init__, fx_mkr c 31, b_Sum___init__, ok_Sum___init__ (P := P) (w := w) (base := base) F_Sum___init__ T C_read_sum X_BadSum⟩
  have C__law_names : Cal P w K mg base 3 "_law_names" ["_law_bag", "_law_many"] (sp_law_names K) := ⟨_, fd_law_names, fx_glo X G c 7, F_law_names.kp, b_law_names, ok_law_names (P := P) (w := w) (base := base) F_law_names T C__law_of C__law_take⟩
  have C__law_tokens : Cal P w K mg base 3 "_law_tokens" ["_law_bag", "_law_names_here"] (sp_law_tokens K) := ⟨_, fd_law_tokens, fx_glo X G c 11, F_law_tokens.kp, b_law_tokens, ok_law_tokens (P := P) (w := w) (base := base) F_law_tokens T C__law_of C__law_take⟩
  have C__law_told : Cal P w K mg base 5 "_law_told" ["_law_text", "_law_names_here"] (sp_law_told K) := ⟨_, fd_law_told, fx_glo X G c 12, F_law_told.kp, b_law_told, ok_law_told (P := P) (w := w) (base := base) F_law_told T M_Sum⟩
  exact ok_law (P := P) (w := w) (base := base) F_law T C__law_names C__law_of C__law_seed C__law_take C__law_tokens C__law_told C__law_wrong
end NL
open PySem PySem.W PySem.Calls PyProof.Rows
set_option maxHeartbeats 0 in
theorem PySem.Challenge.cw_nowlater_k02_sums_refused_holds : PySem.Challenge.rw_nowlater_k02_sums_refused.Holds := by
  w_on; o_law
  refine HandSHeadRun.head_any (r := NL.RR) (q := view NL.RR.prog [20]) (H := NL.hk) (ob := NL.ob) (M := 6000) (loose := NL.loose) (d := HandSHeadRun.topDef NL.RR.prog 20) (kwd := []) NL.ob_eq
    (by kernel_rfl) (fun s => by kernel_rfl) NL.run (by kernel_rfl) (by kernel_rfl) (by kernel_rfl) (by rfl) (by first | assumption | decide +kernel) (by decide +kernel) ⟨rfl, rfl, rfl, rfl, rfl, by decide +kernel⟩ ?hw ?hc
  case hw => w_witness2
  case hc =>
    refine LamX.walk_ofTsE (l := PySem.Challenge.rw_nowlater_k02_sums_refused) (n := 63) (k := 6) (x := "_law_script") (CX := fun w => L2.CX (PySem.Challenge.rw_nowlater_k02_sums_refused).prog w) rfl (by decide) (by kernel_rfl) ⟨rfl, by decide, by decide⟩ ?F NL.hCX
    intro w mg fa h Y G hmg0
    obtain ⟨K, KX, S⟩ := Y
    have hmg : mg ("law" : PySem.Str) = some (.ref fa) := by
      have e : (HandSHeadRun.topDef NL.RR.prog 20).name = ("law" : PySem.Str) := by kernel_rfl
      rw [← e]
      exact hmg0
    obtain ⟨fd, hb, hF⟩ := NL.facts (P := (PySem.Challenge.rw_nowlater_k02_sums_refused).prog) (w := w) KX G hmg S
    exact ⟨K, KX, fd, [], NL.sp_law K, (fun _ z => nomatch z), (fun _ z => nomatch z), (fun _ z => nomatch z), hb, fun H a ns hl hbits _ hS => ⟨a, ns, rfl, hS, hl, hbits, fun _ => rfl⟩, fun base h1 h2 _ => hF base h1 h2⟩
#print axioms PySem.Challenge.cw_nowlater_k02_sums_refused_holds
