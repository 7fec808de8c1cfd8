import PyProof.Rows.All
import Wide.All
import OpenK.AllK
import Wide.FinOn
import HandS.ForMost
import HandS.ForExc
import HandS.Flow
import HandS.Wide
import HandS.IsInst
import HandS.ExcIs
import HandS.ExcField
import HandS.RaiseMore
import HandS.Star
import HandS.EndBits
import HandS.Walk
import HandS.NoneIn
import HandS.ExcInit
import KE.KExcIs
import KE.KStateDown
import Lean
import HandS.Defaults
import HandS.Head0
import HandS.Head1
import HandS.Head2
import HandS.HeadEnd
import HandS.HeadHook1
import HandS.HeadHook2
import HandS.HeadHook3
import HandS.HeadHook4
import HandS.EndTab
import HandS.HeadWalk
import PyProof.RulesMatch
import KE.KCallOwn
import HandS.Dict
import HandS.Strs
import HandS.Sort
import HandS.TupAny
import KE.KWords
import HandS.StrSplit
import PySem.Challenge.RW_nowlater_k04_conditions_refused
set_option Elab.async false
set_option linter.all false
set_option maxRecDepth 100000
set_option maxHeartbeats 4000000
namespace NL
open PySem L2

/-! ### step lemmas: one a reading -/
section
variable {σ : L2.St} {H : Hp} {D : Ends} {i : Nat} {v : V} {Q : VK} {QB : Bool → Hp → Prop} {QA : List V → Hp → Prop}
theorem g_var (e : σ[i]? = some (some v)) (h : Q v H) : tVar i σ H Q := ⟨v, e, h⟩
theorem g_c (h : Q v H) : tC v σ H Q := h
theorem g_op {r : R2} {ta tb : TE} (h : ta σ H fun x H1 => tb σ H1 fun y H2 => r x y H2 Q) : tOp r ta tb σ H Q := h
theorem g_un {r : V → Hp → VK → Prop} {ta : TE} (h : ta σ H fun x H1 => r x H1 Q) : tUn r ta σ H Q := h
theorem g_test {te : TE} (h : te σ H fun x H' => ∃ k, x = .bl k ∧ QB k H') : tTest te σ H QB := h
theorem g_tb {te : TE} (h : te σ H fun x H' => ∃ k, x = .bl k ∧ QB k H') : tB te σ H QB := h
theorem g_bl {b : Bool} {PB : Bool → Prop} (h : PB b) : ∃ k, V.bl b = .bl k ∧ PB k := ⟨b, rfl, h⟩
theorem g_not {t : TT} (h : t σ H fun c H1 => QB (!c) H1) : tNot t σ H QB := h
theorem g_and {t u : TT} (h : t σ H fun c H1 => if c = true then u σ H1 QB else QB false H1) : tAnd t u σ H QB := h
theorem g_or {t u : TT} (h : t σ H fun c H1 => if c = true then QB true H1 else u σ H1 QB) : tOr t u σ H QB := h
theorem g_andT {K : PySem.W.Frag} {ta tb : TE} (h : ta σ H fun x H1 => ∃ k, TruV K x H1 k ∧ if k = true then tb σ H1 Q else Q x H1) : tAndT K ta tb σ H Q := h
theorem g_orT {K : PySem.W.Frag} {ta tb : TE} (h : ta σ H fun x H1 => ∃ k, TruV K x H1 k ∧ if k = true then Q x H1 else tb σ H1 Q) : tOrT K ta tb σ H Q := h
theorem g_notT {K : PySem.W.Frag} {ta : TE} (h : ta σ H fun x H1 => ∃ k, TruV K x H1 k ∧ Q (.bl (!k)) H1) : tNotT K ta σ H Q := h
theorem g_ifE {t : TT} {ta tb : TE} (h : t σ H fun c H1 => if c = true then ta σ H1 Q else tb σ H1 Q) : tIf t ta tb σ H Q := h
theorem g_cb {r : List V → Hp → VK → Prop} {t : TA} (h : t σ H fun vs H1 => r vs H1 Q) : tCB r t σ H Q := h
theorem g_nil (h : QA [] H) : tNil σ H QA := h
theorem g_cons {ta : TE} {tr : TA} (h : ta σ H fun x H1 => tr σ H1 fun xs H2 => QA (x :: xs) H2) : tCons ta tr σ H QA := h
theorem g_callS {sp : Sp} {E : L2.St → XK} {t : TA} (h : t σ H fun vs H1 => sp vs H1 Q (E σ)) : tCallS sp E t σ H Q := h
/-- statements; the ends by places -/
theorem g_seq {t u : TS} {nx : L2.St → Hp → Prop} {rt : VK} {bk ct : L2.St → Hp → Prop} (h : t ⟨u ⟨nx, rt, bk, ct⟩, rt, bk, ct⟩ σ H) : tSeq t u ⟨nx, rt, bk, ct⟩ σ H := h
theorem g_next {nx : L2.St → Hp → Prop} {rt : VK} {bk ct : L2.St → Hp → Prop} (h : nx σ H) : tNext ⟨nx, rt, bk, ct⟩ σ H := h
theorem g_brk {nx : L2.St → Hp → Prop} {rt : VK} {bk ct : L2.St → Hp → Prop} (h : bk σ H) : tBreak ⟨nx, rt, bk, ct⟩ σ H := h
theorem g_cont {nx : L2.St → Hp → Prop} {rt : VK} {bk ct : L2.St → Hp → Prop} (h : ct σ H) : tCont ⟨nx, rt, bk, ct⟩ σ H := h
theorem g_asg {te : TE} {g : TG} {nx : L2.St → Hp → Prop} {rt : VK} {bk ct : L2.St → Hp → Prop} (h : te σ H fun x H1 => g x σ H1 nx) : tAsg te g ⟨nx, rt, bk, ct⟩ σ H := h
theorem g_drop {te : TE} {nx : L2.St → Hp → Prop} {rt : VK} {bk ct : L2.St → Hp → Prop} (h : te σ H fun _ H1 => nx σ H1) : tDrop te ⟨nx, rt, bk, ct⟩ σ H := h
theorem g_ret {te : TE} {nx : L2.St → Hp → Prop} {rt : VK} {bk ct : L2.St → Hp → Prop} (h : te σ H rt) : tRet te ⟨nx, rt, bk, ct⟩ σ H := h
theorem g_retN {nx : L2.St → Hp → Prop} {rt : VK} {bk ct : L2.St → Hp → Prop} (h : rt .non H) : tRetN ⟨nx, rt, bk, ct⟩ σ H := h
theorem g_ifS {c : TT} {t u : TS} (h : c σ H fun b H1 => if b = true then t D σ H1 else u D σ H1) : tIfS c t u D σ H := h
theorem g_name {QS : L2.St → Hp → Prop} (h : QS (σ.set i (some v)) H) : gName i v σ H QS := h
theorem g_nameE {σ' : L2.St} {QS : L2.St → Hp → Prop} (e : σ.set i (some v) = σ') (h : QS σ' H) : gName i v σ H QS := by subst e; exact h
theorem wipe_nil (σ : L2.St) : wipe σ [] = σ := rfl
theorem wipe_cons (σ : L2.St) (i : Nat) (r : List Nat) : wipe σ (i :: r) = (wipe σ r).set i none := rfl
theorem g_sub {QS : L2.St → Hp → Prop} {to ti : TE} {t : TSet} (h : to σ H fun o H1 => ti σ H1 fun i H2 => t o i v H2 fun H3 => QS σ H3) : gSub to ti t v σ H QS := h
theorem g_augE {x : V} {te : TE} {ti : TIp} {nx : L2.St → Hp → Prop} {rt : VK} {bk ct : L2.St → Hp → Prop} (e : σ[i]? = some (some x)) (h : te σ H fun y H1 => ti x y H1 fun z H2 => gName i z σ H2 nx) : tAug i te ti ⟨nx, rt, bk, ct⟩ σ H := ⟨x, e, h⟩
theorem g_aug {x : V} {te : TE} {ti : TIp} {nx : L2.St → Hp → Prop} {rt : VK} {bk ct : L2.St → Hp → Prop} (e : σ[i]? = some (some x)) (h : te σ H fun y H1 => ti x y H1 fun z H2 => nx (σ.set i (some z)) H2) : tAug i te ti ⟨nx, rt, bk, ct⟩ σ H := ⟨x, e, h⟩
/-- a tuple or a list unpacked -/
def gTL (K : PySem.W.Frag) (n : Nat) (t : TGs) : TG := fun v σ H Q => ∃ a xs, v = .ref a ∧ (SqT K H a xs ∨ SqL K H a xs) ∧ xs.length = n ∧ t xs σ H Q
theorem g_gtupL {K : PySem.W.Frag} {n : Nat} {t : TGs} {a : Addr} {xs : List V} {QS : L2.St → Hp → Prop} (h1 : SqL K H a xs) (h2 : xs.length = n) (h : t xs σ H QS) : gTL K n t (.ref a) σ H QS := ⟨a, xs, rfl, .inr h1, h2, h⟩
theorem g_gtup {K : PySem.W.Frag} {n : Nat} {t : TGs} {a : Addr} {xs : List V} {QS : L2.St → Hp → Prop} (h1 : SqT K H a xs) (h2 : xs.length = n) (h : t xs σ H QS) : gTL K n t (.ref a) σ H QS := ⟨a, xs, rfl, .inl h1, h2, h⟩
theorem g_gcons {t : TG} {u : TGs} {r : List V} {QS : L2.St → Hp → Prop} (h : t v σ H fun σ' H' => u r σ' H' QS) : gCons t u (v :: r) σ H QS := ⟨v, r, rfl, h⟩
theorem g_gnil {QS : L2.St → Hp → Prop} (h : QS σ H) : gNil [] σ H QS := ⟨rfl, h⟩
theorem g_lst {t : TA} (h : t σ H fun xs H1 => xs.length ≤ sizeLine ∧ ∀ p, H1 p = none → Q (.ref p) (upd H1 p (.lst xs))) : tLst t σ H Q := h
theorem g_tup {t : TA} (h : t σ H fun xs H1 => xs.length ≤ sizeLine ∧ ∀ p, H1 p = none → Q (.ref p) (upd H1 p (.tup xs))) : tTup t σ H Q := h
theorem g_ite {b : Bool} {A B : Prop} (h1 : b = true → A) (h2 : b = false → B) : if b = true then A else B := by
  cases b
  · exact iteF (h2 rfl)
  · exact iteT (h1 rfl)
theorem g_iteD {c A B : Prop} [Decidable c] (h1 : c → A) (h2 : ¬ c → B) : if decide c = true then A else B :=
  g_ite (fun e => h1 (of_decide_eq_true e)) fun e => h2 (of_decide_eq_false e)
theorem g_iteN {c A B : Prop} [Decidable c] (h1 : ¬ c → A) (h2 : c → B) : if (!decide c) = true then A else B :=
  g_ite (fun e => h1 (by intro z; rw [decide_eq_true z] at e; cases e)) fun e => h2 (by
    by_cases z : c
    · exact z
    · rw [decide_eq_false z] at e; cases e)
theorem g_iteT {b : Bool} {A B : Prop} (e : b = true) (h : A) : if b = true then A else B := by rw [e]; exact iteT h
theorem g_iteF {b : Bool} {A B : Prop} (e : b = false) (h : B) : if b = true then A else B := by rw [e]; exact iteF h
end

/-! ### rules by the values' own kinds -/
theorem opR_imp {X : Cx} {f : Value → Value → Sem Value} {r r' : R2} (h : OpR X f r) (i : ∀ x y H Q, r' x y H Q → r x y H Q) : OpR X f r' := fun pins s σ H x y v u Q I rx ry q => h pins s σ H x y v u Q I rx ry (i x y H Q q)
theorem callR_imp {X : Cx} {f : Value} {r r' : List V → Hp → VK → Prop} (h : CallR X f r) (i : ∀ xs H Q, r' xs H Q → r xs H Q) : CallR X f r' := fun pins s σ H xs us Q I rx q => h pins s σ H xs us Q I rx (i xs H Q q)

def dAdd : R2 := fun x y H Q => match x, y with
  | .int i, .int j => Q (.int (i + j)) H
  | .str a, .str b => a.length + b.length ≤ sizeLine ∧ Q (.str (a ++ b)) H
  | .ref p, .ref q => ∃ xs ys, H p = some (.lst xs) ∧ H q = some (.lst ys) ∧ xs.length + ys.length ≤ sizeLine ∧ ∀ l, H l = none → Q (.ref l) (upd H l (.lst (xs ++ ys)))
  | _, _ => False
theorem op_dAdd {X : Cx} : OpR X (binaryOp .Add) dAdd := by
  intro pins s σ H x y v u Q I rx ry h
  cases x <;> cases y <;> first
    | exact op_add pins s σ H _ _ v u Q I rx ry ⟨_, _, rfl, rfl, h⟩
    | exact op_add_str pins s σ H _ _ v u Q I rx ry ⟨_, _, rfl, rfl, h.1, h.2⟩
    | (obtain ⟨xs, ys, h1, h2, h3, h4⟩ := h
       exact op_cat pins s σ H _ _ v u Q I rx ry ⟨_, _, _, _, rfl, rfl, h1, h2, h3, h4⟩)
    | exact (show False from h).elim
def dSub : R2 := fun x y H Q => match x, y with
  | .int i, .int j => Q (.int (i - j)) H
  | _, _ => False
theorem op_dSub {X : Cx} : OpR X (binaryOp .Sub) dSub := opR_imp op_sub fun x y H Q h => by
  cases x <;> cases y <;> first
    | exact ⟨_, _, rfl, rfl, h⟩
    | exact (show False from h).elim
def dMul : R2 := fun x y H Q => match x, y with
  | .int i, .int j => (CMul i j ∨ CMulW i j) ∧ Q (.int (i * j)) H
  | .ref p, .int k => ∃ xs, H p = some (.lst xs) ∧ -(2 ^ 63) ≤ k ∧ k < 2 ^ 63 ∧ xs.length * k.toNat ≤ sizeLine ∧ ∀ l, H l = none → Q (.ref l) (upd H l (.lst (List.replicate k.toNat xs).flatten))
  | .str a, .int n => MulOk a n ∧ Q (.str (Txt.mul a n)) H
  | _, _ => False
theorem op_mulS {X : Cx} : OpR X (binaryOp .Mult) (fun x y H Q => ∃ a n, x = .str a ∧ y = .int n ∧ MulOk a n ∧ Q (.str (Txt.mul a n)) H) := by
  intro pins s σ H x y v u Q I rx ry h
  obtain ⟨a, n, rfl, rfl, h1, h2⟩ := h
  obtain ⟨t, rfl⟩ := (show ∃ t, v = Value.str a t from rx)
  obtain ⟨t2, rfl⟩ := (show ∃ t, u = Value.int n t from ry)
  exact SB.mul h1 fun t' k => ⟨.str (Txt.mul a n), H, I.tok k, ⟨t', rfl⟩, h2⟩
def dMod : R2 := fun x y H Q => match x, y with
  | .int i, .int j => 0 < j ∧ Q (.int (i % j)) H
  | _, _ => False
theorem op_dMod {X : Cx} : OpR X (binaryOp .Mod) dMod := opR_imp op_mod fun x y H Q h => by
  cases x <;> cases y <;> first
    | exact ⟨_, _, rfl, rfl, h.1, h.2⟩
    | exact (show False from h).elim
def dDiv : R2 := fun x y H Q => match x, y with
  | .int i, .int j => (0 < j ∧ j.natAbs.log2 < 9000) ∧ Q (.int (i / j)) H
  | _, _ => False
theorem op_dDiv {X : Cx} : OpR X (binaryOp .FloorDiv) dDiv := opR_imp op_fdivW fun x y H Q h => by
  cases x <;> cases y <;> first
    | exact ⟨_, _, rfl, rfl, h.1, h.2⟩
    | exact (show False from h).elim
theorem op_dMul {X : Cx} : OpR X (binaryOp .Mult) dMul := by
  intro pins s σ H x y v u Q I rx ry h
  cases x <;> cases y <;> first
    | (rcases h with ⟨h | h, q⟩
       · exact op_mul pins s σ H _ _ v u Q I rx ry ⟨_, _, rfl, rfl, h, q⟩
       · exact op_mulW pins s σ H _ _ v u Q I rx ry ⟨_, _, rfl, rfl, h, q⟩)
    | (obtain ⟨xs, h1, h2, h3, h4, h5⟩ := h
       exact op_rep pins s σ H _ _ v u Q I rx ry ⟨_, _, _, rfl, rfl, h1, h2, h3, h4, h5⟩)
    | exact op_mulS pins s σ H _ _ v u Q I rx ry ⟨_, _, rfl, rfl, h⟩
    | exact (show False from h).elim
def dPow : R2 := fun x y H Q => match x, y with
  | .int i, .int j => CPow i j ∧ Q (.int (i ^ j.toNat)) H
  | _, _ => False
theorem op_dPow {X : Cx} : OpR X (binaryOp .Pow) dPow := opR_imp op_pow fun x y H Q h => by
  cases x <;> cases y <;> first
    | exact ⟨_, _, rfl, rfl, h.1, h.2⟩
    | exact (show False from h).elim
/-- comparisons of ints -/
def dCmp (f : Int → Int → Bool) : R2 := fun x y H Q => match x, y with
  | .int i, .int j => Q (.bl (f i j)) H
  | _, _ => False
abbrev dLt := dCmp fun i j => decide (i < j)
abbrev dLe := dCmp fun i j => decide (i ≤ j)
abbrev dGt := dCmp fun i j => decide (j < i)
abbrev dGe := dCmp fun i j => decide (j ≤ i)
theorem dCmp_imp {f : Int → Int → Bool} (x y : V) (H : Hp) (Q : VK) (h : dCmp f x y H Q) : (rI0 fun i j => .bl (f i j)) x y H Q := by
  cases x <;> cases y <;> first
    | exact ⟨_, _, rfl, rfl, h⟩
    | exact (show False from h).elim
theorem op_dLt {X : Cx} : OpR X (compareOp .Lt) dLt := opR_imp op_lt dCmp_imp
theorem op_dLe {X : Cx} : OpR X (compareOp .LtE) dLe := opR_imp op_le dCmp_imp
theorem op_dGt {X : Cx} : OpR X (compareOp .Gt) dGt := opR_imp op_gt dCmp_imp
theorem op_dGe {X : Cx} : OpR X (compareOp .GtE) dGe := opR_imp op_ge dCmp_imp
/-- == and != : scalars, or data -/
def dEq (K : PySem.W.Frag) : R2 := fun x y H Q => rEq x y H Q ∨ rEqD K x y H Q
def dNe (K : PySem.W.Frag) : R2 := fun x y H Q => rNe x y H Q ∨ rNeD K x y H Q
theorem op_dEq0 {X : Cx} (hu : X.A.units + 64 < cLine) : OpR X (compareOp .Eq) (dEq X.K) := OpR.or op_eq (op_eqD hu)
theorem op_dNe0 {X : Cx} (hu : X.A.units + 64 < cLine) : OpR X (compareOp .NotEq) (dNe X.K) := OpR.or op_ne (op_neD hu)
/-- in, not in: one sign in a text; a flat thing in a list or tuple -/
def dIn (K : PySem.W.Frag) : R2 := fun x y H Q => match y with
  | .str z => ∃ c : Nat, x = .str ⟨#[c]⟩ ∧ Q (.bl (decide (c ∈ z.cps.toList))) H
  | .ref p => ∃ xs, (SqL K H p xs ∨ SqT K H p xs) ∧ flatV x = true ∧ xs.all flatV = true ∧ Q (.bl (inV x xs)) H
  | _ => False
def dNotIn (K : PySem.W.Frag) : R2 := fun x y H Q => match y with
  | .str z => ∃ c : Nat, x = .str ⟨#[c]⟩ ∧ Q (.bl (!decide (c ∈ z.cps.toList))) H
  | .ref p => ∃ xs, (SqL K H p xs ∨ SqT K H p xs) ∧ flatV x = true ∧ xs.all flatV = true ∧ Q (.bl (!inV x xs)) H
  | _ => False
theorem op_dIn0 {X : Cx} : OpR X (compareOp .In) (dIn X.K) := by
  intro pins s σ H x y v u Q I rx ry h
  cases y with
  | str z =>
    obtain ⟨c, e, q⟩ := h
    exact op_in_sign pins s σ H _ _ v u Q I rx ry ⟨c, z, e, rfl, q⟩
  | ref p =>
    obtain ⟨xs, h1, h2, h3, q⟩ := h
    exact op_in_seq pins s σ H _ _ v u Q I rx ry ⟨p, xs, rfl, h1, h2, h3, q⟩
  | _ => exact (show False from h).elim
theorem op_dNotIn0 {X : Cx} : OpR X (compareOp .NotIn) (dNotIn X.K) := by
  intro pins s σ H x y v u Q I rx ry h
  cases y with
  | str z =>
    obtain ⟨c, e, q⟩ := h
    exact op_notIn_sign pins s σ H _ _ v u Q I rx ry ⟨c, z, e, rfl, q⟩
  | ref p =>
    obtain ⟨xs, h1, h2, h3, q⟩ := h
    exact op_notIn_seq pins s σ H _ _ v u Q I rx ry ⟨p, xs, rfl, h1, h2, h3, q⟩
  | _ => exact (show False from h).elim
def dIs : R2 := fun x y H Q => match y with
  | .non => Q (.bl (decide (x = .non))) H
  | _ => False
def dIsNot : R2 := fun x y H Q => match y with
  | .non => Q (.bl (!decide (x = .non))) H
  | _ => False
theorem op_dIs {X : Cx} : OpR X (compareOp .Is) dIs := opR_imp op_isN fun x y H Q h => by
  cases y <;> first
    | exact ⟨rfl, h⟩
    | exact (show False from h).elim
theorem op_dIsNot {X : Cx} : OpR X (compareOp .IsNot) dIsNot := opR_imp op_notN fun x y H Q h => by
  cases y <;> first
    | exact ⟨rfl, h⟩
    | exact (show False from h).elim
/-! ### built-in calls -/
def dLen (K : PySem.W.Frag) : List V → Hp → VK → Prop := fun xs H Q => match xs with
  | [.str y] => y.length ≤ sizeLine ∧ Q (.int y.length) H
  | [.ref p] => ∃ ys, (SqL K H p ys ∨ SqT K H p ys) ∧ Q (.int ys.length) H
  | _ => False
theorem cl_len0 {X : Cx} : CallR X (.builtin "len") (dLen X.K) := by
  intro pins s σ H xs us Q I r h
  match xs, h with
  | [.str y], h => exact call_len_str pins s σ H _ us Q I r ⟨y, rfl, h.1, h.2⟩
  | [.ref p], h =>
    obtain ⟨ys, h1, q⟩ := h
    exact call_len_seq pins s σ H _ us Q I r ⟨p, ys, rfl, h1, q⟩
def dInt : List V → Hp → VK → Prop := fun xs H Q => match xs with
  | [.int i] => Q (.int i) H
  | [.bl k] => Q (.int (if k then 1 else 0)) H
  | [.str a] => ∃ n, PySem.intText? a = some n ∧ a.length ≤ 640 ∧ Q (.int n) H
  | _ => False
theorem cl_int {X : Cx} : CallR X (.type "int") dInt := by
  intro pins s σ H xs us Q I r h
  match xs, h with
  | [.int i], h => exact call_int1 pins s σ H _ us Q I r (.inl ⟨i, rfl, h⟩)
  | [.bl k], h => exact call_int1 pins s σ H _ us Q I r (.inr ⟨k, rfl, h⟩)
  | [.str a], h =>
    obtain ⟨n, h1, h2, q⟩ := h
    exact call_int_str pins s σ H _ us Q I r ⟨a, n, rfl, h1, h2, q⟩
def dStr : List V → Hp → VK → Prop := fun xs H Q => match xs with
  | [.int i] => i.natAbs.log2 < 1920 ∧ Q (.str (toString i)) H
  | [.str a] => Q (.str a) H
  | _ => False
theorem cl_str {X : Cx} : CallR X (.type "str") dStr := by
  intro pins s σ H xs us Q I r h
  match xs, h with
  | [.int i], h => exact call_str_int pins s σ H _ us Q I r ⟨i, rfl, h.1, h.2⟩
  | [.str a], h => exact SkE.call_str_str pins s σ H _ us Q I r ⟨a, rfl, h⟩
def dAbs : List V → Hp → VK → Prop := fun xs H Q => match xs with
  | [.int i] => Q (.int (if i < 0 then -i else i)) H
  | _ => False
theorem cl_abs {X : Cx} : CallR X (.builtin "abs") dAbs := by
  intro pins s σ H xs us Q I r h
  match xs, h with
  | [.int i], h => exact call_abs pins s σ H _ us Q I r ⟨i, rfl, h⟩
def dMax : List V → Hp → VK → Prop := fun xs H Q => match xs with
  | [.int i, .int j] => Q (.int (if j > i then j else i)) H
  | _ => False
theorem cl_max {X : Cx} (hc : X.calm = true) : CallR X (.builtin "max") dMax := by
  intro pins s σ H xs us Q I r h
  match xs, h with
  | [.int i, .int j], h => exact call_max2 hc pins s σ H _ us Q I r ⟨i, j, rfl, h⟩
def dMin : List V → Hp → VK → Prop := fun xs H Q => match xs with
  | [.int i, .int j] => Q (.int (if j < i then j else i)) H
  | _ => False
theorem cl_min {X : Cx} (hc : X.calm = true) : CallR X (.builtin "min") dMin := by
  intro pins s σ H xs us Q I r h
  match xs, h with
  | [.int i, .int j], h => exact call_min2 hc pins s σ H _ us Q I r ⟨i, j, rfl, h⟩
def dList (K : PySem.W.Frag) : List V → Hp → VK → Prop := fun xs H Q => match xs with
  | [.ref p] => ∃ ys, (SqL K H p ys ∨ SqT K H p ys) ∧ ∀ l, H l = none → Q (.ref l) (upd H l (.lst ys))
  | _ => False
theorem cl_list0 {X : Cx} : CallR X (.type "list") (dList X.K) := by
  intro pins s σ H xs us Q I r h
  match xs, h with
  | [.ref p], h =>
    obtain ⟨ys, h1, q⟩ := h
    exact call_list_of pins s σ H _ us Q I r ⟨p, ys, rfl, h1, q⟩
def dIsi (K : PySem.W.Frag) : List V → Hp → VK → Prop := rIsi K
theorem cl_isinstance0 {X : Cx} : CallR X (.builtin "isinstance") (dIsi X.K) := call_isi
/-! ### subscripts, slices -/
def dIx (K : PySem.W.Frag) : R2 := fun x y H Q => match x, y with
  | .ref p, .int i => ∃ xs v, (SqL K H p xs ∨ SqT K H p xs) ∧ atI xs i = some v ∧ Q v H
  | .str z, .int i => ∃ c, z.length ≤ sizeLine ∧ atI z.cps.toList i = some c ∧ Q (.str ⟨#[c]⟩) H
  | _, _ => False
theorem ix_dyn0 {X : Cx} : IxR X (dIx X.K) := by
  intro value slice pins s σ H x y v u Q I rx ry h hs
  refine ix_seq value slice pins s σ H x y v u Q I rx ry ?_ hs
  cases x <;> cases y <;> first
    | (obtain ⟨xs, w, h1 | h1, h2, q⟩ := h
       · exact .inl ⟨_, xs, _, w, rfl, rfl, h1, h2, q⟩
       · exact .inr (.inl ⟨_, xs, _, w, rfl, rfl, h1, h2, q⟩))
    | (obtain ⟨c, h1, h2, q⟩ := h
       exact .inr (.inr ⟨_, _, c, rfl, rfl, h1, h2, q⟩))
    | exact (show False from h).elim
def dSl (K : PySem.W.Frag) : V → Option Int → Option Int → Hp → VK → Prop := fun x lo hi H Q => match x with
  | .ref p => ∃ xs, SqL K H p xs ∧ ∀ l, H l = none → Q (.ref l) (upd H l (.lst (cutV xs lo hi)))
  | .str z => z.length ≤ sizeLine ∧ Q (.str (cutS z lo hi)) H
  | _ => False
theorem sl_dyn0 {X : Cx} : SlR X (dSl X.K) := by
  intro pins s σ H x v vl vu lo hi sl Q I rx hs pl pu h
  cases x with
  | ref p =>
    obtain ⟨xs, h1, q⟩ := h
    exact sl_list pins s σ H _ v vl vu lo hi sl Q I rx hs pl pu ⟨p, xs, rfl, h1, q⟩
  | str z => exact sl_str pins s σ H _ v vl vu lo hi sl Q I rx hs pl pu ⟨z, rfl, h.1, h.2⟩
  | _ => exact (show False from h).elim
section
variable {X : Cx} (K : PySem.W.Frag)
theorem op_dIn (h : X.K = K := by rfl) : OpR X (compareOp .In) (dIn K) := h ▸ op_dIn0
theorem op_dNotIn (h : X.K = K := by rfl) : OpR X (compareOp .NotIn) (dNotIn K) := h ▸ op_dNotIn0
theorem op_dEq (hu : X.A.units + 64 < cLine) (h : X.K = K := by rfl) : OpR X (compareOp .Eq) (dEq K) := h ▸ op_dEq0 hu
theorem op_dNe (hu : X.A.units + 64 < cLine) (h : X.K = K := by rfl) : OpR X (compareOp .NotEq) (dNe K) := h ▸ op_dNe0 hu
theorem cl_len (h : X.K = K := by rfl) : CallR X (.builtin "len") (dLen K) := h ▸ cl_len0
theorem cl_list (h : X.K = K := by rfl) : CallR X (.type "list") (dList K) := h ▸ cl_list0
theorem cl_isinstance (h : X.K = K := by rfl) : CallR X (.builtin "isinstance") (dIsi K) := h ▸ cl_isinstance0
theorem ix_dyn (h : X.K = K := by rfl) : IxR X (dIx K) := h ▸ ix_dyn0
theorem sl_dyn (h : X.K = K := by rfl) : SlR X (dSl K) := h ▸ sl_dyn0
end
/-! ### the forms that gen.py writes -/
section
variable {X : Cx} {x : Str} {e : Expr} {es : List Expr} {te : TE} {t : TA} {pos pos' p : Pos}
theorem q_set (i : Nat) (hN : X.N.Nodup) (he : PE X e te) (hi : X.N[i]? = some x := by rfl) (hx : Loc X.env.scope x := by first | exact Or.inl rfl | exact Or.inr rfl)
    (hs : swapsWith e (some (.Name x pos')) pos.line X.env = pure false := by rfl) (hf : X.fn x = true ∨ X.env.scope.names.lookup x = some .local := by first | exact .inl rfl | exact .inr rfl) :
    PS X (.Assign [.Name x pos'] e pos) (tAsg te (gName i)) := ps_set hN hi hx he hs hf
theorem q_name (i : Nat) (hN : X.N.Nodup) (hi : X.N[i]? = some x := by rfl) (hx : Loc X.env.scope x := by first | exact Or.inl rfl | exact Or.inr rfl)
    (hf : X.fn x = true ∨ X.env.scope.names.lookup x = some .local := by first | exact .inl rfl | exact .inr rfl) : PG X (.Name x pos) (gName i) := pg_name hN hi hx hf
theorem q_aug (i : Nat) {op : Operator} {ti : TIp} (hN : X.N.Nodup) (he : PE X e te) (ho : PIp X op ti) (hi : X.N[i]? = some x := by rfl) (hx : Loc X.env.scope x := by first | exact Or.inl rfl | exact Or.inr rfl)
    (hf : X.fn x = true ∨ X.env.scope.names.lookup x = some .local := by first | exact .inl rfl | exact .inr rfl) : PS X (.AugAssign (.Name x pos') op e pos) (tAug i te ti) := ps_aug hN hi hx he ho hf
/-- a module's name and its value -/
def GV (mg : Str → Option Value) (x : Str) (v : V) : Prop := ∃ u, mg x = some u ∧ RelV v u
theorem q_glob {v : V} (h : GV X.mg x v) (hg : Gl X x := by rfl) (hd : (x == ("__debug__" : Str)) = false := by decide) : PE X (.Name x pos) (tC v) := by
  obtain ⟨u, h1, h2⟩ := h
  exact pe_glob hg h1 h2 hd
/-- a def of the module: where it stands, how it binds, what it promises -/
structure Cal (P : Program) (w : World) (K : PySem.W.Frag) (mg : Str → Option Value) (base : Heap) (k : Nat) (x : Str) (ps : List Str) (sp : Sp) : Prop where
  ex : ∃ f fd, mg x = some (.ref f) ∧ PySem.W.keepIn K (.ref f) = true ∧ Binds K fd ps [] ∧ FnOk P w K mg base (L2.CX P w) k f fd ps sp
theorem q_call {W : WX} {k : Nat} {ps : List Str} {sp : Sp} (C : Cal X.prog X.w X.K X.mg X.base k x ps sp) (tk : Takes X W) (hr : Room k X.A) (ha : PA X (e :: es) t) (hg : Gl X x := by rfl) (hdb : (x == ("__debug__" : Str)) = false := by decide)
    (he : starEach (e :: es) X.env = (false, eval e X.env) :: starEach es X.env := by rfl) (hpl : (backTo pos (starEach es X.env)).any (·.1) = false := by rfl) :
    PE X (.Call (.Name x p) (e :: es) [] pos) (tCallS sp (WE W) t) := by
  obtain ⟨f, fd, h1, h2, h3, h4⟩ := C.ex
  exact pe_callS h4 hr hg h1 h2 h3 (fun σ => passAt tk σ) ha hdb he hpl
end

/-! ### step lemmas of the rules by kinds -/
section
variable {K : PySem.W.Frag} {H : Hp} {Q : VK} {i j : Int} {a b : Str} {p : Addr} {xs : List V} {v : V} {k : Bool}
theorem g_add_i (h : Q (.int (i + j)) H) : dAdd (.int i) (.int j) H Q := h
theorem g_add_s (z : a.length + b.length ≤ sizeLine) (h : Q (.str (a ++ b)) H) : dAdd (.str a) (.str b) H Q := ⟨z, h⟩
theorem g_sub_i (h : Q (.int (i - j)) H) : dSub (.int i) (.int j) H Q := h
theorem g_mul_i (z : CMul i j ∨ CMulW i j) (h : Q (.int (i * j)) H) : dMul (.int i) (.int j) H Q := ⟨z, h⟩
theorem g_mul_s (z : MulOk a i) (h : Q (.str (Txt.mul a i)) H) : dMul (.str a) (.int i) H Q := ⟨z, h⟩
theorem g_mod_i (z : 0 < j) (h : Q (.int (i % j)) H) : dMod (.int i) (.int j) H Q := ⟨z, h⟩
theorem g_div_i (z : 0 < j ∧ j.natAbs.log2 < 9000) (h : Q (.int (i / j)) H) : dDiv (.int i) (.int j) H Q := ⟨z, h⟩
theorem g_pow_i (z : CPow i j) (h : Q (.int (i ^ j.toNat)) H) : dPow (.int i) (.int j) H Q := ⟨z, h⟩
theorem g_cmp_i {f : Int → Int → Bool} (h : Q (.bl (f i j)) H) : dCmp f (.int i) (.int j) H Q := h
theorem dec_i : decide (V.int i = V.int j) = decide (i = j) := by simp
theorem dec_s : decide (V.str a = V.str b) = decide (a = b) := by simp
theorem dec_b {c d : Bool} : decide (V.bl c = V.bl d) = decide (c = d) := by simp
theorem g_eq_i (h : Q (.bl (decide (i = j))) H) : dEq K (.int i) (.int j) H Q := .inl ⟨rfl, by rw [dec_i]; exact h⟩
theorem g_eq_s (h : Q (.bl (decide (a = b))) H) : dEq K (.str a) (.str b) H Q := .inl ⟨rfl, by rw [dec_s]; exact h⟩
theorem g_eq_b {c d : Bool} (h : Q (.bl (decide (c = d))) H) : dEq K (.bl c) (.bl d) H Q := .inl ⟨rfl, by rw [dec_b]; exact h⟩
theorem g_ne_i (h : Q (.bl (!decide (i = j))) H) : dNe K (.int i) (.int j) H Q := .inl ⟨rfl, by rw [dec_i]; exact h⟩
theorem g_ne_s (h : Q (.bl (!decide (a = b))) H) : dNe K (.str a) (.str b) H Q := .inl ⟨rfl, by rw [dec_s]; exact h⟩
theorem g_ne_b {c d : Bool} (h : Q (.bl (!decide (c = d))) H) : dNe K (.bl c) (.bl d) H Q := .inl ⟨rfl, by rw [dec_b]; exact h⟩
theorem g_len_s (z : a.length ≤ sizeLine) (h : Q (.int a.length) H) : dLen K [.str a] H Q := ⟨z, h⟩
theorem g_len_l (z : SqL K H p xs ∨ SqT K H p xs) (h : Q (.int xs.length) H) : dLen K [.ref p] H Q := ⟨xs, z, h⟩
theorem g_int_i (h : Q (.int i) H) : dInt [.int i] H Q := h
theorem g_int_s {n : Int} (z1 : PySem.intText? a = some n) (z2 : a.length ≤ 640) (h : Q (.int n) H) : dInt [.str a] H Q := ⟨n, z1, z2, h⟩
theorem g_str_i (z : i.natAbs.log2 < 1920) (h : Q (.str (toString i)) H) : dStr [.int i] H Q := ⟨z, h⟩
theorem g_str_s (h : Q (.str a) H) : dStr [.str a] H Q := h
theorem g_abs (h : Q (.int (if i < 0 then -i else i)) H) : dAbs [.int i] H Q := h
theorem g_max (h : Q (.int (if j > i then j else i)) H) : dMax [.int i, .int j] H Q := h
theorem g_min (h : Q (.int (if j < i then j else i)) H) : dMin [.int i, .int j] H Q := h
theorem g_ix_l (z1 : SqL K H p xs ∨ SqT K H p xs) (z2 : atI xs i = some v) (h : Q v H) : dIx K (.ref p) (.int i) H Q := ⟨xs, v, z1, z2, h⟩
theorem g_ix_s {c : Nat} (z1 : a.length ≤ sizeLine) (z2 : atI a.cps.toList i = some c) (h : Q (.str ⟨#[c]⟩) H) : dIx K (.str a) (.int i) H Q := ⟨c, z1, z2, h⟩
theorem g_setL {QH : Hp → Prop} {n : Nat} (z1 : H p = some (.lst xs)) (z2 : ixN xs.length i = some n) (h : QH (upd H p (.lst (xs.set n v)))) : rSetL (.ref p) (.int i) v H QH := ⟨p, xs, i, n, rfl, rfl, z1, z2, h⟩
theorem g_isN (h : Q (.bl (decide (v = .non))) H) : dIs v .non H Q := h
theorem g_isNotN (h : Q (.bl (!decide (v = .non))) H) : dIsNot v .non H Q := h
end
theorem bt_len : bootBuiltins "len" = some (.builtin "len") := by decide +kernel
theorem bt_abs : bootBuiltins "abs" = some (.builtin "abs") := by decide +kernel
theorem bt_max : bootBuiltins "max" = some (.builtin "max") := by decide +kernel
theorem bt_min : bootBuiltins "min" = some (.builtin "min") := by decide +kernel
theorem bt_isinstance : bootBuiltins "isinstance" = some (.builtin "isinstance") := by decide +kernel
theorem bt_sorted : bootBuiltins "sorted" = some (.builtin "sorted") := by decide +kernel
theorem bt_sum : bootBuiltins "sum" = some (.builtin "sum") := by decide +kernel
theorem bt_repr : bootBuiltins "repr" = some (.builtin "repr") := by decide +kernel
theorem bt_any : bootBuiltins "any" = some (.builtin "any") := by decide +kernel
theorem bt_all : bootBuiltins "all" = some (.builtin "all") := by decide +kernel
theorem bt_int : bootBuiltins "int" = some (.type "int") := by decide +kernel
theorem bt_str : bootBuiltins "str" = some (.type "str") := by decide +kernel
theorem bt_bool : bootBuiltins "bool" = some (.type "bool") := by decide +kernel
theorem bt_list : bootBuiltins "list" = some (.type "list") := by decide +kernel
theorem bt_tuple : bootBuiltins "tuple" = some (.type "tuple") := by decide +kernel
theorem bt_dict : bootBuiltins "dict" = some (.type "dict") := by decide +kernel
theorem bt_set : bootBuiltins "set" = some (.type "set") := by decide +kernel
theorem bt_ValueError : bootBuiltins "ValueError" = some (.type "ValueError") := by decide +kernel
theorem bt_LookupError : bootBuiltins "LookupError" = some (.type "LookupError") := by decide +kernel
theorem bt_RuntimeError : bootBuiltins "RuntimeError" = some (.type "RuntimeError") := by decide +kernel
theorem bt_Exception : bootBuiltins "Exception" = some (.type "Exception") := by decide +kernel
theorem q_bltn {X : Cx} {x : Str} {n : String} {pos : Pos} (hm : X.mg x = none) (hv : bootBuiltins x = some (.type n)) (hg : Gl X x := by rfl) (hn : x ≠ "__name__" := by decide) (hd : (x == ("__debug__" : Str)) = false := by decide) : PE X (.Name x pos) (tC (.ty n)) :=
  pe_bltn hg hm hv rfl hn hd
/-! ### loops -/
def Loop (J : It) (g : TG) (tb : TS) (D : Ends) (σ : L2.St) (H : Hp) : Prop := ∃ W : Nat → Nat → L2.St → Hp → Prop, (∃ m, W 0 m σ H) ∧ ∀ i m σ H, W i m σ H →
  (J.stop i H ∧ D.nx σ H) ∨ (J.go i H ∧ ∃ N : L2.St → Hp → Prop, (∀ σ' H', N σ' H' → ∃ m', m' < m ∧ W (i + 1) m' σ' H') ∧ ∀ x H', J.yld i H x H' → g x σ H' fun σ2 H2 => tb { D with nx := N, ct := N, bk := D.nx } σ2 H2)
def LoopC (J : It) (g : TG) (tt : TT) (te : TE) (vs : List Nat) (σ : L2.St) (H1 : Hp) (D : Addr) (Qd : Hp → Prop) : Prop := ∃ W : Nat → Nat → Hp → Prop, (∃ m, W 0 m (upd H1 D (.lst []))) ∧ ∀ i m H, W i m H →
  (J.stop i H ∧ Qd H) ∨ (J.go i H ∧ ∃ Nx : Hp → Prop, (∀ H', Nx H' → ∃ m', m' < m ∧ W (i + 1) m' H') ∧ ∀ x H', J.yld i H x H' → g x (wipe σ vs) H' fun σ2 H2 => wipe σ2 vs = wipe σ vs ∧ tt σ2 H2 fun b H3 =>
    if b = true then te σ2 H3 fun y H4 => ∃ acc, H4 D = some (.lst acc) ∧ acc.length < sizeLine ∧ Nx (upd H4 D (.lst (acc ++ [y]))) else Nx H3)
section
variable {σ : L2.St} {H : Hp} {K : PySem.W.Frag} {R : It → Hp → Prop} {p : Addr} {xs ys : List V} {te : TE} {ta : TA}
theorem g_for {wi : TI} {g : TG} {tb : TS} {D : Ends} (h : wi σ H fun J H1 => Loop J g tb D σ H1) : tFor wi g tb D σ H := h
theorem g_lc {wi : TI} {g : TG} {tt : TT} {te : TE} {vs : List Nat} {Q : VK} (h : wi σ H fun J H1 => ∀ D, H1 D = none → LoopC J g tt te vs σ H1 D fun H' => Q (.ref D) H') : tLc wi g tt te vs σ H Q := h
theorem g_iL (h : te σ H fun x H1 => ∃ a, x = .ref a ∧ (∃ xs, SqL K H1 a xs) ∧ R (Itl K a) H1) : iList K te σ H R := h
theorem g_iL1 {Z : Addr → Prop} (z : SqL K H p xs) (h : Z p) : ∃ a, V.ref p = .ref a ∧ (∃ xs, SqL K H a xs) ∧ Z a := ⟨p, rfl, ⟨xs, z⟩, h⟩
theorem g_iT (h : te σ H fun x H1 => ∃ a, x = .ref a ∧ (∃ xs, SqT K H1 a xs) ∧ R (Itt K a) H1) : iTup K te σ H R := h
theorem g_iT1 {Z : Addr → Prop} (z : SqT K H p xs) (h : Z p) : ∃ a, V.ref p = .ref a ∧ (∃ xs, SqT K H a xs) ∧ Z a := ⟨p, rfl, ⟨xs, z⟩, h⟩
theorem g_iS (h : te σ H fun v H1 => ∃ x, v = .str x ∧ R (Its x) H1) : iStr te σ H R := h
theorem g_iS1 {Z : Str → Prop} {a : Str} (h : Z a) : ∃ x, V.str a = .str x ∧ Z x := ⟨a, rfl, h⟩
theorem g_iE (h : ta σ H fun vs H1 => ∃ a xs, vs = [.ref a] ∧ SqL K H1 a xs ∧ R (Ite K a) H1) : iEnum K ta σ H R := h
theorem g_iE1 {Z : Addr → Prop} (z : SqL K H p xs) (h : Z p) : ∃ a xs, [V.ref p] = [.ref a] ∧ SqL K H a xs ∧ Z a := ⟨p, xs, rfl, z, h⟩
theorem g_iR (h : ta σ H fun vs H1 => ∃ j : Int, vs = [.int j] ∧ -(2 ^ 62) ≤ j ∧ j < 2 ^ 62 ∧ R (Itr 0 j.toNat) H1) : iRng1 ta σ H R := h
theorem g_iR1 {j : Int} (z1 : -(2 ^ 62) ≤ j) (z2 : j < 2 ^ 62) {Z : Int → Prop} (h : Z j) : ∃ i : Int, [V.int j] = [.int i] ∧ -(2 ^ 62) ≤ i ∧ i < 2 ^ 62 ∧ Z i := ⟨j, rfl, z1, z2, h⟩
theorem g_while {c : TT} {tb : TS} {D : Ends} (h : tWhile c tb D σ H) : tWhile c tb D σ H := h
/-- the forms of loops: an invariant by the turn -/
theorem lp_it {J : It} {n : Nat} {G : Hp → Prop} {Y : Nat → Hp → V → Hp → Prop} (w : Walk J n G Y) {g : TG} {tb : TS} {nx : L2.St → Hp → Prop} {rt : VK} {bk ct : L2.St → Hp → Prop} (Pv : Nat → L2.St → Hp → Prop) (h0 : Pv 0 σ H) (hG : ∀ i σ H, i ≤ n → Pv i σ H → G H)
    (hs : ∀ i x σ H H', i < n → Pv i σ H → Y i H x H' → g x σ H' fun σ2 H2 => tb ⟨Pv (i + 1), rt, nx, Pv (i + 1)⟩ σ2 H2) (hd : ∀ σ H, Pv n σ H → nx σ H) : Loop J g tb ⟨nx, rt, bk, ct⟩ σ H := for_it w Pv h0 hG hs hd
theorem lc_by {J : It} {n : Nat} {G : Hp → Prop} {Y : Nat → Hp → V → Hp → Prop} (w : Walk J n G Y) {g : TG} {tt : TT} {te : TE} {vs : List Nat} {D : Addr} {Qd : Hp → Prop} (Pv : Nat → Hp → Prop) (h0 : Pv 0 (upd H D (.lst []))) (hG : ∀ i H, i ≤ n → Pv i H → G H)
    (hs : ∀ i x H H', i < n → Pv i H → Y i H x H' → g x (wipe σ vs) H' fun σ2 H2 => wipe σ2 vs = wipe σ vs ∧ tt σ2 H2 fun b H3 =>
      if b = true then te σ2 H3 fun y H4 => ∃ acc, H4 D = some (.lst acc) ∧ acc.length < sizeLine ∧ Pv (i + 1) (upd H4 D (.lst (acc ++ [y]))) else Pv (i + 1) H3) (hd : ∀ H, Pv n H → Qd H) : LoopC J g tt te vs σ H D Qd := lc_it w Pv h0 hG hs hd
theorem g_yes {QB : Bool → Hp → Prop} (h : QB true H) : tYes σ H QB := h
theorem g_sl {r : V → Option Int → Option Int → Hp → VK → Prop} {te : TE} {tl th : TO} {Q : VK} (h : te σ H fun x H1 => tl σ H1 fun l H2 => th σ H2 fun u H3 => r x l u H3 Q) : tSl r te tl th σ H Q := h
theorem g_noP {QO : Option Int → Hp → Prop} (h : QO none H) : tNoPart σ H QO := h
theorem g_part {QO : Option Int → Hp → Prop} {t : TE} (h : t σ H fun x H1 => ∃ i, x = .int i ∧ QO (some i) H1) : tPart t σ H QO := h
theorem g_int1 {i : Int} {Z : Int → Prop} (h : Z i) : ∃ j, V.int i = .int j ∧ Z j := ⟨i, rfl, h⟩
theorem g_slL {lo hi : Option Int} {Q : VK} (z : SqL K H p xs) (h : ∀ l, H l = none → Q (.ref l) (upd H l (.lst (cutV xs lo hi)))) : dSl K (.ref p) lo hi H Q := ⟨xs, z, h⟩
theorem g_slS {lo hi : Option Int} {Q : VK} {a : Str} (z : a.length ≤ sizeLine) (h : Q (.str (cutS a lo hi)) H) : dSl K (.str a) lo hi H Q := ⟨z, h⟩
theorem g_listL {Q : VK} (z : SqL K H p xs ∨ SqT K H p xs) (h : ∀ l, H l = none → Q (.ref l) (upd H l (.lst xs))) : dList K [.ref p] H Q := ⟨xs, z, h⟩
theorem g_addL {q : Addr} {Q : VK} (z1 : H p = some (.lst xs)) (z2 : H q = some (.lst ys)) (z3 : xs.length + ys.length ≤ sizeLine) (h : ∀ l, H l = none → Q (.ref l) (upd H l (.lst (xs ++ ys)))) : dAdd (.ref p) (.ref q) H Q := ⟨xs, ys, z1, z2, z3, h⟩
theorem g_inL {x : V} {Q : VK} (z1 : SqL K H p xs ∨ SqT K H p xs) (z2 : flatV x = true) (z3 : xs.all flatV = true) (h : Q (.bl (inV x xs)) H) : dIn K x (.ref p) H Q := ⟨xs, z1, z2, z3, h⟩
theorem g_ninL {x : V} {Q : VK} (z1 : SqL K H p xs ∨ SqT K H p xs) (z2 : flatV x = true) (z3 : xs.all flatV = true) (h : Q (.bl (!inV x xs)) H) : dNotIn K x (.ref p) H Q := ⟨xs, z1, z2, z3, h⟩
theorem g_inS {c : Nat} {z : Str} {Q : VK} (h : Q (.bl (decide (c ∈ z.cps.toList))) H) : dIn K (.str ⟨#[c]⟩) (.str z) H Q := ⟨c, rfl, h⟩
theorem g_ninS {c : Nat} {z : Str} {Q : VK} (h : Q (.bl (!decide (c ∈ z.cps.toList))) H) : dNotIn K (.str ⟨#[c]⟩) (.str z) H Q := ⟨c, rfl, h⟩
theorem g_bm {T : String} {r : V → List V → Hp → VK → Prop} {to : TE} {t : TA} {Q : VK} (h : to σ H fun x H1 => tyV K T x H1 ∧ t σ H1 fun xs H2 => r x xs H2 Q) : tBM K T r to t σ H Q := h
theorem g_bm0 {T : String} {r : V → List V → Hp → VK → Prop} {to : TE} {Q : VK} (h : to σ H fun x H1 => tyV K T x H1 ∧ r x [] H1 Q) : tBM0 K T r to σ H Q := h
theorem g_app {v : V} {Q : VK} (z1 : H p = some (.lst xs)) (z2 : xs.length < sizeLine) (h : Q .non (upd H p (.lst (xs ++ [v])))) : rAppend (.ref p) [v] H Q := ⟨p, xs, v, rfl, rfl, z1, z2, h⟩
theorem g_fld {ta : TE} {f : Str} {Q : VK} (h : ta σ H fun x H1 => ∃ a C dx fs v, x = .ref a ∧ H1 a = some (.ins C dx fs) ∧ Cls K C ∧ NoAttr K C f ∧ fs.lookup f = some v ∧ Q v H1) : tFld K ta f σ H Q := h
theorem g_sfld {ta tv : TE} {f : Str} {nx : L2.St → Hp → Prop} {rt : VK} {bk ct : L2.St → Hp → Prop} (h : tv σ H fun y H1 => ta σ H1 fun x H2 => ∃ a C dx fs, x = .ref a ∧ H2 a = some (.ins C dx fs) ∧ Cls K C ∧ NoAttr K C f ∧ fs.length < 1000 ∧ nx σ (upd H2 a (.ins C dx (putF f y fs)))) :
    sFld K ta tv f ⟨nx, rt, bk, ct⟩ σ H := h
theorem tyL {xs : List V} (z : SqL K H p xs) : tyV K "list" (.ref p) H := .inl ⟨rfl, xs, z⟩
theorem tyS {a : Str} : tyV K "str" (.str a) H := rfl
theorem g_tyL {B : Prop} (z : SqL K H p xs) (h : B) : tyV K "list" (.ref p) H ∧ B := ⟨tyL z, h⟩
theorem g_tyS {B : Prop} {a : Str} (h : B) : tyV K "str" (.str a) H ∧ B := ⟨rfl, h⟩
theorem tru_b {b : Bool} {Z : Bool → Prop} (h : Z b) : ∃ k, TruV K (.bl b) H k ∧ Z k := ⟨b, rfl, h⟩
theorem tru_i {i : Int} {Z : Bool → Prop} (h : Z (i != 0)) : ∃ k, TruV K (.int i) H k ∧ Z k := ⟨_, rfl, h⟩
theorem tru_n {Z : Bool → Prop} (h : Z false) : ∃ k, TruV K .non H k ∧ Z k := ⟨_, rfl, h⟩
theorem tru_l {Z : Bool → Prop} (z : SqL K H p xs) (h : Z (!xs.isEmpty)) : ∃ k, TruV K (.ref p) H k ∧ Z k := ⟨_, .inl ⟨xs, z, rfl⟩, h⟩
theorem tru_t {Z : Bool → Prop} (z : SqT K H p xs) (h : Z (!xs.isEmpty)) : ∃ k, TruV K (.ref p) H k ∧ Z k := ⟨_, .inr (.inl ⟨xs, z, rfl⟩), h⟩
end
/-! ### heaps that keep what they had, but at some places -/
def Sx (W : List Addr) (H H' : Hp) : Prop := ∀ a o, a ∉ W → H a = some o → H' a = some o
theorem Sx.refl {W : List Addr} (H : Hp) : Sx W H H := fun _ _ _ h => h
theorem Sx.trans {W : List Addr} {H H1 H2 : Hp} (a : Sx W H H1) (b : Sx W H1 H2) : Sx W H H2 := fun c o h e => b c o h (a c o h e)
theorem Sx.of {W : List Addr} {H H' : Hp} (h : Same H H') : Sx W H H' := fun a o _ e => h a o e
theorem Sx.same {H H' : Hp} (h : Sx [] H H') : Same H H' := fun a o e => h a o (by simp) e
theorem Sx.new {W : List Addr} {H H' : Hp} {p : Addr} {o : HO} (h : Sx W H H') (n : H' p = none) : Sx W H (upd H' p o) := fun a u w e => by
  have q := h a u w e
  rw [upd_ne (ne_of_none q n)]; exact q
theorem Sx.mut {W : List Addr} {H H' : Hp} {p : Addr} {o : HO} (h : Sx W H H') (n : H p = none) : Sx W H (upd H' p o) := fun a u w e => by
  rw [upd_ne (ne_of_none e n)]; exact h a u w e
theorem Sx.put {W : List Addr} {H H' : Hp} {p : Addr} {o : HO} (h : Sx W H H') (n : p ∈ W) : Sx W H (upd H' p o) := fun a u w e => by
  rw [upd_ne (show a ≠ p from fun z => w (by rw [z]; exact n))]; exact h a u w e
theorem Sx.mono {W W' : List Addr} {H H' : Hp} (h : Sx W H H') (i : ∀ a ∈ W, a ∈ W') : Sx W' H H' := fun a o w e => h a o (fun z => w (i a z)) e
theorem Sx.free {W : List Addr} {H H' : Hp} {p : Addr} (h : Sx W H H') (w : p ∉ W) (n : H' p = none) : H p = none := by
  cases q : H p with
  | none => rfl
  | some o => rw [h p o w q] at n; cases n
theorem Sx.get1 {b a : Addr} {o : HO} {H H' : Hp} (h : Sx [b] H H') (n : a ≠ b) (e : H a = some o) : H' a = some o := h a o (by simpa using n) e
theorem _root_.L2.Same.new {H H' : Hp} {p : Addr} {o : HO} (h : Same H H') (n : H' p = none) : Same H (upd H' p o) := fun a u e => by
  have q := h a u e
  rw [upd_ne (ne_of_none q n)]; exact q
theorem _root_.L2.Same.mut {H H' : Hp} {p : Addr} {o : HO} (h : Same H H') (n : H p = none) : Same H (upd H' p o) := fun a u e => by
  rw [upd_ne (ne_of_none e n)]; exact h a u e
/-! ### the same rules, the written part by its letter -/
section
variable {X : Cx} (K : PySem.W.Frag) {e o : Expr} {es : List Expr} {te ta tv : TE} {t : TA} {tg : Expr} {pos pos' p tpos apos cpos : Pos}
theorem q_list (he : PE X e te) (h : X.K = K := by rfl) : PI X tg e (iList K te) := h ▸ pi_list he
theorem q_tupI (he : PE X e te) (h : X.K = K := by rfl) : PI X tg e (iTup K te) := h ▸ pi_tup he
theorem q_enum {elts : List Expr} {kk : Nat} (hm : X.mg "enumerate" = none) (ha : PA X [e] t) (hg : Gl X "enumerate" := by rfl) (hs : starEach [e] X.env = [(false, eval e X.env)] := by rfl) (h : X.K = K := by rfl) :
    PI X (.Tuple elts kk tpos) (.Call (.Name "enumerate" p) [e] [] pos) (iEnum K t) := h ▸ pi_enum hg hm ha hs
theorem q_gtup (n : Nat) {k : Nat} {ts : TGs} (h : PGs X es ts) (hc : X.calm = true := by rfl) (hn : (assignEach es X.env).length = n := by rfl) (hst : (assignEach es X.env).findIdx? (·.1) = none := by rfl) (hK : X.K = K := by rfl) :
    PG X (.Tuple es k pos) (gTL K n ts) := by
  subst hK
  refine ⟨fun pins s σ H v u Q I r q => ?_⟩
  obtain ⟨a, xs, e, h1 | h1, h2, h3⟩ := q
  · exact (pg_tup hc h hn hst).run pins s σ H v u Q I r ⟨a, xs, e, h1, h2, h3⟩
  · exact (pg_unl hc h hn hst).run pins s σ H v u Q I r ⟨a, xs, e, h1, h2, h3⟩
theorem q_truth (ha : PE X e ta) (he : ∀ whole, isTrue e X.env whole = (do let v ← whole; standAt e.pos; holding [v] (truthy v)) := by intro _; rfl) (h : X.K = K := by rfl) :
    PT X e (fun σ H Q => ta σ H fun x H' => ∃ k, TruV K x H' k ∧ Q k H') := h ▸ pt_truth ha he
theorem q_orT {b : Expr} {rest : List Expr} {tb : TE} (ha : PE X e ta) (hb : PE X (.BoolOp .Or (b :: rest) pos) tb) (h : X.K = K := by rfl) : PE X (.BoolOp .Or (e :: b :: rest) pos) (tOrT K ta tb) := h ▸ pe_orT ha hb
theorem q_andT {b : Expr} {rest : List Expr} {tb : TE} (ha : PE X e ta) (hb : PE X (.BoolOp .And (b :: rest) pos) tb) (h : X.K = K := by rfl) : PE X (.BoolOp .And (e :: b :: rest) pos) (tAndT K ta tb) := h ▸ pe_andT ha hb
theorem q_notT (ha : PE X e ta) (h : X.K = K := by rfl) : PE X (.UnaryOp .Not e pos) (tNotT K ta) := h ▸ pe_notT ha
theorem q_fld {f : Str} (ha : PE X o ta) (hb : attributeBase o f X.env (eval o X.env) = eval o X.env := by rfl) (h : X.K = K := by rfl) : PE X (.Attribute o f pos) (tFld K ta f) := h ▸ pe_fld ha hb
theorem q_sfld {f : Str} (ha : PE X o ta) (hv : PE X e tv) (hs : swapsWith e (some (.Attribute o f pos')) pos.line X.env = pure false := by rfl) (h : X.K = K := by rfl) : PS X (.Assign [.Attribute o f pos'] e pos) (sFld K ta tv f) := h ▸ ps_fld ha hv hs
section
variable {name : Str} {T id : String} {r : V → List V → Hp → VK → Prop} {to : TE}
theorem q_bm0 (pa : PlainAttrs T) (slot : Slot T name id) (hty : typeOf (.builtin id) = pure (.type "method_descriptor")) (hm : MtR X id r) (ho : PE X o to)
    (hbase : attributeBase o name X.env (eval o X.env) = eval o X.env := by rfl) (hline : (apos.endLine == cpos.line) = true := by rfl) (h : X.K = K := by rfl) : PE X (.Call (.Attribute o name apos) [] [] cpos) (tBM0 K T r to) := h ▸ pe_bm0 pa slot hty hm ho hbase hline
theorem q_bm (pa : PlainAttrs T) (slot : Slot T name id) (hty : typeOf (.builtin id) = pure (.type "method_descriptor")) (hm : MtR X id r) (ho : PE X o to) (ha : PA X (e :: es) t)
    (hbase : attributeBase o name X.env (eval o X.env) = eval o X.env := by rfl)
    (hfew : ((backTo cpos (starEach (e :: es) X.env)).all (fun x => !x.1) && (backToKw cpos (keywordEach [] X.env)).all (fun x => x.1.isSome)
      && decide ((e :: es).length + ([] : List Keyword).length + (if ([] : List Keyword).isEmpty then 0 else 1) < 30)) = true := by rfl)
    (hline : (apos.endLine == cpos.line) = true := by rfl) (hs : starEach (e :: es) X.env = (false, eval e X.env) :: starEach es X.env := by rfl) (hplain : (backTo cpos (starEach es X.env)).any (·.1) = false := by rfl) (h : X.K = K := by rfl) :
    PE X (.Call (.Attribute o name apos) (e :: es) [] cpos) (tBM K T r to t) := h ▸ pe_bm pa slot hty hm ho ha hbase hfew hline hs hplain
end
theorem m_append : MtR X "list.append" rAppend := mt_append
def dJoin (K : PySem.W.Frag) : V → List V → Hp → VK → Prop := fun x xs H Q => ∃ a p, ∃ ys : List Str, x = .str a ∧ xs = [.ref p] ∧ (SqL K H p (ys.map V.str) ∨ SqT K H p (ys.map V.str)) ∧ (ys.map (·.length)).sum + ys.length * a.length ≤ 16777216 ∧ Q (.str (Txt.join a ys)) H
theorem m_join (h : X.K = K := by rfl) : MtR X "str.join" (dJoin K) := h ▸ mt_join
def dWords : V → List V → Hp → VK → Prop := fun x xs H Q => ∃ a, x = .str a ∧ xs = [] ∧ a.length + 2 ≤ sizeLine ∧ ∀ p, H p = none → Q (.ref p) (upd H p (.lst ((Txt.words a).map V.str)))
theorem m_words : MtR X "str.split" dWords := mt_words
def dSplit : V → List V → Hp → VK → Prop := fun x xs H Q => ∃ a b, x = .str a ∧ xs = [.str b] ∧ (b.length == 0) = false ∧ a.length + 2 ≤ sizeLine ∧ ∀ p, H p = none → Q (.ref p) (upd H p (.lst ((Txt.split a b).map V.str)))
theorem m_split : MtR X "str.split" dSplit := mt_split
end
section
variable {K : PySem.W.Frag} {H : Hp} {Q : VK} {a b : Str} {p : Addr} {ys : List Str}
theorem g_join (z1 : SqL K H p (ys.map V.str) ∨ SqT K H p (ys.map V.str)) (z2 : (ys.map (·.length)).sum + ys.length * a.length ≤ 16777216) (h : Q (.str (Txt.join a ys)) H) : dJoin K (.str a) [.ref p] H Q := ⟨a, p, ys, rfl, rfl, z1, z2, h⟩
theorem g_words (z : a.length + 2 ≤ sizeLine) (h : ∀ p, H p = none → Q (.ref p) (upd H p (.lst ((Txt.words a).map V.str)))) : dWords (.str a) [] H Q := ⟨a, rfl, rfl, z, h⟩
theorem g_split (z1 : (b.length == 0) = false) (z : a.length + 2 ≤ sizeLine) (h : ∀ p, H p = none → Q (.ref p) (upd H p (.lst ((Txt.split a b).map V.str)))) : dSplit (.str a) [.str b] H Q := ⟨a, b, rfl, rfl, z1, z, h⟩
theorem g_start {t : TS} {D : Ends} {σ σ' : L2.St} {H : Hp} (e : σ = σ') (h : t D σ' H) : t D σ H := e ▸ h
end
/-- what comes behind, once for all: R is found where it is used -/
theorem g_all {α : Type} {R : α → Prop} {G : Prop} (main : (∀ c, R c) → G) (rest : ∀ c, R c) : G := main rest
theorem g_all2 {α β : Type} {R : α → β → Prop} {G : Prop} (main : (∀ c d, R c d) → G) (rest : ∀ c d, R c d) : G := main rest
theorem g_allW {α : Type} {W R : α → Prop} {G : Prop} (main : (∀ c, W c → R c) → G) (rest : ∀ c, W c → R c) : G := main rest
theorem hp_same {H H' : Hp} {a : Addr} {o : HO} (s : Same H H') (e : H a = some o) : H' a = some o := s a o e
theorem hp_sx {W : List Addr} {H H' : Hp} {a : Addr} {o : HO} (s : Sx W H H') (n : a ∉ W) (e : H a = some o) : H' a = some o := s a o n e
theorem al {n : Nat} {B : Prop} (h : B) (z : Nat.ble n 16777216 = true := by rfl) : n ≤ sizeLine ∧ B := ⟨by rw [sizeLine_eq]; exact Nat.le_of_ble_eq_true z, h⟩
theorem inV_str {t : Str} {xs : List Str} : inV (.str t) (xs.map V.str) = decide (t ∈ xs) := by
  induction xs with
  | nil => rfl
  | cons x r ih =>
    have e : inV (.str t) ((x :: r).map V.str) = (eqV (.str x) (.str t) || inV (.str t) (r.map V.str)) := rfl
    rw [e, ih]
    have e2 : eqV (.str x) (.str t) = decide (t = x) := by
      show (x == t) = decide (t = x)
      by_cases h : x = t
      · subst h; simp
      · rw [decide_eq_false (fun z => h z.symm)]; simpa using h
    rw [e2, Bool.eq_iff_iff]
    simp
theorem inV_int {t : Int} {xs : List Int} : inV (.int t) (xs.map V.int) = decide (t ∈ xs) := by
  induction xs with
  | nil => rfl
  | cons x r ih =>
    have e : inV (.int t) ((x :: r).map V.int) = (eqV (.int x) (.int t) || inV (.int t) (r.map V.int)) := rfl
    rw [e, ih]
    have e2 : eqV (.int x) (.int t) = decide (t = x) := by
      show (x == t) = decide (t = x)
      by_cases h : x = t
      · subst h; simp
      · rw [decide_eq_false (fun z => h z.symm)]; simpa using h
    rw [e2, Bool.eq_iff_iff]
    simp
theorem flat_strs (xs : List Str) : (xs.map V.str).all flatV = true := by simp [flatV]
theorem flat_ints (xs : List Int) : (xs.map V.int).all flatV = true := by simp [flatV]
theorem atI_of {α : Type} {xs : List α} {i : Nat} {v : α} (h : xs[i]? = some v) : atI xs (i : Int) = some v := by
  have hl : i < xs.length := (List.getElem?_eq_some_iff.mp h).1
  unfold atI ixN
  rw [if_pos (Int.natCast_nonneg i), if_pos (by omega)]
  show xs[(i : Int).toNat]? = some v
  rw [Int.toNat_natCast]; exact h
theorem atI_map {α : Type} {xs : List α} {f : α → V} {i : Nat} {v : α} (h : xs[i]? = some v) : atI (xs.map f) (i : Int) = some (f v) := atI_of (by rw [List.getElem?_map, h]; rfl)
theorem sqL_same {K : PySem.W.Frag} {H H' : Hp} {a : Addr} {xs : List V} (h : SqL K H a xs) (e : Same H H') : SqL K H' a xs := Same.seq e h
theorem rd_same {H H' : Hp} {a : Addr} {u : HO} (e : Same H H') (h : Rd H a u) : Rd H' a u := by
  rcases h with h | ⟨o, h⟩
  · exact Or.inl (e a _ h)
  · exact Or.inr ⟨o, e a _ h⟩
theorem sqT_same {K : PySem.W.Frag} {H H' : Hp} {a : Addr} {xs : List V} (h : SqT K H a xs) (e : Same H H') : SqT K H' a xs := by
  rcases h with h | h
  · exact Or.inl (rd_same e h)
  · exact Or.inr h
section
variable {K : PySem.W.Frag} {H : Hp} {Q : VK} {p : Addr}
theorem g_ip {f : Int → Int → Int} {i j : Int} (h : Q (.int (f i j)) H) : ipI f (.int i) (.int j) H Q := ⟨i, j, rfl, rfl, h⟩
theorem g_rU {g : Int → V} {i : Int} (h : Q (g i) H) : rU g (.int i) H Q := ⟨i, rfl, h⟩
theorem g_inLs {t : Str} {ns : List Str} (z1 : SqL K H p (ns.map V.str) ∨ SqT K H p (ns.map V.str)) (h : Q (.bl (decide (t ∈ ns))) H) : dIn K (.str t) (.ref p) H Q := ⟨_, z1, rfl, flat_strs ns, by rw [inV_str]; exact h⟩
theorem g_ninLs {t : Str} {ns : List Str} (z1 : SqL K H p (ns.map V.str) ∨ SqT K H p (ns.map V.str)) (h : Q (.bl (!decide (t ∈ ns))) H) : dNotIn K (.str t) (.ref p) H Q := ⟨_, z1, rfl, flat_strs ns, by rw [inV_str]; exact h⟩
end
section
variable {K : PySem.W.Frag} {H : Hp} {p C dx : Addr} {fs : List (Str × V)} {f : Str} {v : V}
theorem g_gf {Z : V → Prop} (z1 : H p = some (.ins C dx fs)) (z2 : Cls K C) (z3 : NoAttr K C f) (z4 : fs.lookup f = some v) (h : Z v) : ∃ a C dx fs v, V.ref p = .ref a ∧ H a = some (.ins C dx fs) ∧ Cls K C ∧ NoAttr K C f ∧ fs.lookup f = some v ∧ Z v := ⟨p, C, dx, fs, v, rfl, z1, z2, z3, z4, h⟩
theorem g_sf {Z : Hp → Prop} (z1 : H p = some (.ins C dx fs)) (z2 : Cls K C) (z3 : NoAttr K C f) (z4 : fs.length < 1000) (h : Z (upd H p (.ins C dx (putF f v fs)))) :
    ∃ a C dx fs, V.ref p = .ref a ∧ H a = some (.ins C dx fs) ∧ Cls K C ∧ NoAttr K C f ∧ fs.length < 1000 ∧ Z (upd H a (.ins C dx (putF f v fs))) := ⟨p, C, dx, fs, rfl, z1, z2, z3, z4, h⟩
end
/-! ### data: lists of texts, of ints compared -/
section
variable {K : PySem.W.Frag} {H : Hp} {Q : VK} {p q : Addr}
theorem dp_strs (xs : List Str) : DpAll K H (xs.map V.str) (xs.map PyData.str) := by
  induction xs with
  | nil => exact .nil
  | cons x r ih => exact .cons (.str x) ih
theorem dp_ints (xs : List Int) : DpAll K H (xs.map V.int) (xs.map PyData.int) := by
  induction xs with
  | nil => exact .nil
  | cons x r ih => exact .cons (.int x) ih
theorem lay_all {ds : List PyData} (h : ∀ d ∈ ds, d.canLay0 = true ∧ d.depth ≤ 60) : PyData.canLayAll0 ds = true ∧ PyData.depthAll ds ≤ 60 := by
  induction ds with
  | nil => exact ⟨rfl, by simp [PyData.depthAll]⟩
  | cons d r ih =>
    obtain ⟨h1, h2⟩ := h d (List.mem_cons_self ..)
    obtain ⟨h3, h4⟩ := ih fun e he => h e (List.mem_cons_of_mem _ he)
    exact ⟨by simp [PyData.canLayAll0, h1, h3], by simp only [PyData.depthAll]; omega⟩
theorem shaped_list {ds : List PyData} (h : ∀ d ∈ ds, d.canLay0 = true ∧ d.depth ≤ 60) : SeqAt.shaped (.list ds) = true := by
  obtain ⟨h1, h2⟩ := lay_all h
  simp only [SeqAt.shaped, PyData.canLay0, PyData.depth, h1, Bool.true_and]
  exact decide_eq_true (by omega)
theorem shaped_tup {ds : List PyData} (h : ∀ d ∈ ds, d.canLay0 = true ∧ d.depth ≤ 60) : SeqAt.shaped (.tuple ds) = true := by
  obtain ⟨h1, h2⟩ := lay_all h
  simp only [SeqAt.shaped, PyData.canLay0, PyData.depth, h1, Bool.true_and]
  exact decide_eq_true (by omega)
/-- texts of signs that are signs -/
def Sok (xs : List Str) : Prop := ∀ x ∈ xs, PyData.strOk x = true
theorem shaped_strs {xs : List Str} (h : Sok xs) : SeqAt.shaped (.list (xs.map PyData.str)) = true := shaped_list fun d hd => by
  obtain ⟨x, hx, rfl⟩ := List.mem_map.mp hd
  exact ⟨by simp only [PyData.canLay0]; exact h x hx, by simp [PyData.depth]⟩
theorem sok_asc {x : Str} (h : ∀ c ∈ x.cps.toList, c ≤ 127) : PyData.strOk x = true := by
  unfold PyData.strOk
  rw [← Array.all_toList, List.all_eq_true]
  intro c hc
  have := h c hc
  exact decide_eq_true (by omega)
theorem shaped_ints (xs : List Int) : SeqAt.shaped (.list (xs.map PyData.int)) = true := shaped_list fun d hd => by
  obtain ⟨x, _, rfl⟩ := List.mem_map.mp hd
  exact ⟨by simp only [PyData.canLay0], by simp [PyData.depth]⟩
theorem eqv_strs : ∀ (xs ys : List Str), PyData.eqvAll (xs.map PyData.str) (ys.map PyData.str) = decide (xs = ys)
  | [], [] => rfl
  | [], y :: ys => by simp [PyData.eqvAll]
  | x :: xs, [] => by simp [PyData.eqvAll]
  | x :: xs, y :: ys => by
    simp only [List.map_cons, PyData.eqvAll, PyData.eqv, eqv_strs xs ys]
    rw [Bool.eq_iff_iff]
    simp
theorem eqv_ints : ∀ (xs ys : List Int), PyData.eqvAll (xs.map PyData.int) (ys.map PyData.int) = decide (xs = ys)
  | [], [] => rfl
  | [], y :: ys => by simp [PyData.eqvAll]
  | x :: xs, [] => by simp [PyData.eqvAll]
  | x :: xs, y :: ys => by
    simp only [List.map_cons, PyData.eqvAll, PyData.eqv, eqv_ints xs ys]
    rw [Bool.eq_iff_iff]
    simp
theorem g_neLs {xs ys : List Str} (s1 : Sok xs) (s2 : Sok ys) (z1 : SqL K H p (xs.map V.str)) (z2 : SqL K H q (ys.map V.str)) (h : Q (.bl (!decide (xs = ys))) H) : dNe K (.ref p) (.ref q) H Q :=
  .inr ⟨_, _, .lst z1 (dp_strs xs), .lst z2 (dp_strs ys), shaped_strs s1, shaped_strs s2, by simp only [PyData.eqv, eqv_strs]; exact h⟩
theorem g_eqLs {xs ys : List Str} (s1 : Sok xs) (s2 : Sok ys) (z1 : SqL K H p (xs.map V.str)) (z2 : SqL K H q (ys.map V.str)) (h : Q (.bl (decide (xs = ys))) H) : dEq K (.ref p) (.ref q) H Q :=
  .inr ⟨_, _, .lst z1 (dp_strs xs), .lst z2 (dp_strs ys), shaped_strs s1, shaped_strs s2, by simp only [PyData.eqv, eqv_strs]; exact h⟩
theorem g_neLi {xs ys : List Int} (z1 : SqL K H p (xs.map V.int)) (z2 : SqL K H q (ys.map V.int)) (h : Q (.bl (!decide (xs = ys))) H) : dNe K (.ref p) (.ref q) H Q :=
  .inr ⟨_, _, .lst z1 (dp_ints xs), .lst z2 (dp_ints ys), shaped_ints xs, shaped_ints ys, by simp only [PyData.eqv, eqv_ints]; exact h⟩
end
theorem iteNT {A B : Prop} (h : B) : if (!true) = true then A else B := iteF h
theorem iteNF {A B : Prop} (h : A) : if (!false) = true then A else B := iteT h
theorem g_allW2 {α β : Type} {W R : α → β → Prop} {G : Prop} (main : (∀ c d, W c d → R c d) → G) (rest : ∀ c d, W c d → R c d) : G := main rest
theorem log2_of {n k : Nat} (h0 : 0 < k) (h : n < 2 ^ k) : n.log2 < k := by
  by_cases z : n = 0
  · subst z; simpa using h0
  · exact (Nat.log2_lt z).mpr h
theorem log2_1000 {d : Int} (h0 : 0 ≤ d) (h1 : d < 2 ^ 120) : d.natAbs.log2 < 1920 := Nat.lt_trans (log2_of (k := 120) (by decide) (by omega)) (by decide)
end NL
namespace NL
open PySem L2
/-! ### own exceptions of one field -/
/-- what __init__(self, f): self.f = f does to the exception that is being made -/
def sp_xi (C : Addr) (f : Str) : Sp := fun vs H Q _ => ∃ (a : Addr) (v : V), vs = [.ref a, v] ∧ H a = some (exo a C none) ∧
  ∀ dx, H dx = none → dx ≠ a → Q .non (upd (upd H dx (exd dx [(f, v)])) a (exo a C (some dx)))
/-- what is known of an own exception class x with the field f -/
structure XC (P : Program) (w : World) (K : PySem.W.Frag) (mg : Str → Option Value) (base : Heap) (k : Nat) (x f : Str) (C : Addr) : Prop where
  g : mg x = some (.ref C)
  o : OexC K C
  no : PySem.W.findIn K (.ref C) f = some none
  fn : ∃ (fI : Addr) (fd : FuncData) (ps : List Str), PySem.W.findIn K (.ref C) "__init__" = some (some (.ref fI)) ∧ PySem.W.typeIn K (.ref fI) = some (.type "function") ∧ Binds K fd ps [] ∧ FnOk P w K mg base (L2.CX P w) k fI fd ps (sp_xi C f)
theorem del_upd {H : Hp} {a d : Addr} {o1 o2 o3 o4 : HO} (ha : H a = none) (hd : d ≠ a) : upd (del (upd (upd (upd H a o1) d o2) a o3) a) d o4 = upd H d o4 := by
  funext b
  by_cases e : b = d
  · subst e; rw [upd_same, upd_same]
  · rw [upd_ne e, upd_ne e]
    by_cases e2 : b = a
    · subst e2; rw [del_same, ha]
    · rw [del_ne e2, upd_ne e2, upd_ne e, upd_ne e2]
section
variable {X : Cx} {k : Nat} {x f : Str} {C : Addr} {e : Expr} {es : List Expr} {ta : TA} {p pos pos2 : Pos}
def tMkX (C : Addr) (f : Str) (ta : TA) : L2.St → Hp → XK → Prop := fun σ H Q => ta σ H fun vs H1 => ∃ v, vs = [v] ∧ ∀ d, H1 d = none → Q (.ref C) (some d) (upd H1 d (.xd [(f, v)]))
theorem imp_of {X : Cx} {e : Expr} {t t' : L2.St → Hp → XK → Prop} (h : PMk X e t) (i : ∀ σ H Q, t' σ H Q → t σ H Q) : PMk X e t' := fun pins s σ H Q I q => h pins s σ H Q I (i σ H Q q)
theorem pa_imp {X : Cx} {es : List Expr} {t t' : TA} (h : PA X es t) (i : ∀ σ H Q, t' σ H Q → t σ H Q) : PA X es t' := ⟨fun pos pins s σ H Q I q => h.run pos pins s σ H Q I (i σ H Q q)⟩
/-- arguments: what is wanted of them may be weakened -/
def Mono (t : TA) : Prop := ∀ (σ : L2.St) (H : Hp) (Q Q' : List V → Hp → Prop), (∀ vs H', Q vs H' → Q' vs H') → t σ H Q → t σ H Q'
theorem pmk_x (T : XC X.prog X.w X.K X.mg X.base k x f C) (hr : Room (k + 1) X.A) (ha : PA X (e :: es) ta) (hg : Gl X x := by rfl) (hdb : (x == ("__debug__" : Str)) = false := by decide)
    (he : starEach (e :: es) X.env = (false, eval e X.env) :: starEach es X.env := by rfl) (hpl : (backTo pos (starEach es X.env)).any (·.1) = false := by rfl) :
    PMk X (.Call (.Name x p) (e :: es) [] pos) (tMkX C f ta) := by
  obtain ⟨fI, fd, ps, iC, tI, hb, F1⟩ := T.fn
  have ha' : PA X (e :: es) (fun σ H Q => ta σ H fun vs H1 => Q vs H1) := ha
  intro pins s σ H Q I h
  have base := pmk_oex (dvs := []) (ds := []) (p := p) T.o iC tI F1 hr hb .nil passL hg T.g (ta := fun σ H Q => ∃ (R : List V → Hp → Prop), ta σ H R ∧ ∀ vs H', R vs H' → Q vs H')
    (⟨fun pos pins s σ H Q I q => by
      obtain ⟨R, h1, h2⟩ := q
      exact thn (ha.run pos pins s σ H R I h1) fun us s1 ⟨vs, H1, I1, r, q1⟩ => ⟨vs, H1, I1, r, h2 vs H1 q1⟩⟩) hdb he hpl
  refine base pins s σ H Q I ⟨_, h, fun vs H1 hv => ?_⟩
  obtain ⟨v, rfl, hv⟩ := hv
  refine ⟨by show 1 ≤ 1000; decide, fun a ha1 => ⟨a, v, rfl, upd_same, fun dx hdx hne => ⟨rfl, dx, [(f, v)], upd_same, ?_, ?_, ?_⟩⟩⟩
  · rw [upd_ne hne, upd_same]
  · have := hdx
    rw [upd_ne hne] at this
    exact this
  · rw [del_upd ha1 hne]
    rw [upd_ne hne] at hdx
    exact hv dx hdx
/-- raise x(e) -/
def tRaiseX (C : Addr) (f : Str) (W : WX) (ta : TA) : TS := fun _ σ H => ta σ H fun vs H1 => ∃ v, vs = [v] ∧ ∀ d, H1 d = none → W (.ref C) (some d) σ (upd H1 d (.xd [(f, v)]))
theorem q_raise {W : WX} (T : XC X.prog X.w X.K X.mg X.base k x f C) (tk : Takes X W) (hr : Room (k + 1) X.A) (ha : PA X (e :: es) ta) (hc : X.calm = true := by rfl) (hg : Gl X x := by rfl) (hdb : (x == ("__debug__" : Str)) = false := by decide)
    (he : starEach (e :: es) X.env = (false, eval e X.env) :: starEach es X.env := by rfl) (hpl : (backTo pos (starEach es X.env)).any (·.1) = false := by rfl) :
    PS X (.Raise (some (.Call (.Name x p) (e :: es) [] pos)) none pos2) (tRaiseX C f W ta) := ps_raise hc tk (pmk_x T hr ha hg hdb he hpl)
theorem g_raise {C : Addr} {f : Str} {W : WX} {ta : TA} {D : Ends} {σ : L2.St} {H : Hp} (h : ta σ H fun vs H1 => ∃ v, vs = [v] ∧ ∀ d, H1 d = none → W (.ref C) (some d) σ (upd H1 d (.xd [(f, v)]))) : tRaiseX C f W ta D σ H := h
theorem g_raised {v : V} {Z : V → Prop} (h : Z v) : ∃ u, [v] = [u] ∧ Z u := ⟨v, rfl, h⟩
end
/-! ### in an except suite: isinstance of the exception that is held, its field -/
def dIsX (K : PySem.W.Frag) (a : Addr) (cls : Value) (d : Option Addr) : List V → Hp → VK → Prop := fun xs H Q => ∃ (D dd : Addr) (fs : List (Str × V)) (c : V) (cv : Value) (b : Bool),
  xs = [.ref a, c] ∧ cls = .ref D ∧ d = some dd ∧ H dd = some (.xd fs) ∧ ExcC K D ∧ ClsV c cv ∧ PySem.W.kitOne K (.ref D) cv = some b ∧ Q (.bl b) H
theorem cl_isX0 {X : Cx} {a : Addr} {oe : Obj} {cls : Value} {d : Option Addr} {pn : List (Addr × Obj)} (hz : Zc cls d oe) (hf : ∃ vs, oe.data = .fields vs) : CallR (X.suite a ((a, oe) :: pn)) (.builtin "isinstance") (dIsX X.K a cls d) := by
  intro pins s σ H xs us Q I r h
  obtain ⟨D, dd, fs, c, cv, b, rfl, rfl, rfl, hx, C, kc, e, q⟩ := h
  obtain ⟨u1, u2, rfl, r1, r2⟩ := Vals.two r
  obtain rfl : u1 = Value.ref a := r1
  have e2 := kc.eq r2
  subst e2
  obtain ⟨hget, _⟩ := I.pin (a, oe) (List.mem_append.mpr (.inl List.mem_cons_self))
  obtain ⟨vs, hv⟩ := hf
  obtain ⟨mA, ⟨o, es, ep, ho, _⟩, _⟩ := I.hok dd _ hx
  have J : PySem.W.InstAt s.heap a oe D (some o) := by
    obtain ⟨oc, od, oda, osl⟩ := oe
    obtain ⟨h1, h2⟩ := hz
    dsimp only at h1 h2 hv
    subst h1 h2 hv
    exact ⟨hget, rfl, rfl, ho⟩
  have hcl : (PySem.W.clsIn X.K D).isSome = true := by
    obtain ⟨cd, hc, _⟩ := PySem.W.any_some C.hd
    rw [hc]; rfl
  exact PySem.W.kia_one (PySem.W.kitx_exc hcl C.hg C.hk C.hs C.ha C.hn C.ht C.hm) I.kIn J e (fun z => nomatch z) fun tk => ⟨.bl b, H, I.kept (t' := tk) fun _ _ z => z, rfl, q⟩
theorem cl_isX {X : Cx} (K : PySem.W.Frag) {a : Addr} {oe : Obj} {cls : Value} {d : Option Addr} {pn : List (Addr × Obj)} (hz : Zc cls d oe) (hf : ∃ vs, oe.data = .fields vs) (h : X.K = K := by rfl) :
    CallR (X.suite a ((a, oe) :: pn)) (.builtin "isinstance") (dIsX K a cls d) := h ▸ cl_isX0 hz hf
def tXfD (K : PySem.W.Frag) (a : Addr) (cls : Value) (d : Option Addr) (f : Str) (te : TE) : TE := fun σ H Q => te σ H fun x H1 => x = .ref a ∧ ∃ (C dd : Addr) (fs : List (Str × V)) (v : V), cls = .ref C ∧ XfC K C ∧ PySem.W.findIn K (.ref C) f = some none ∧ d = some dd ∧ H1 dd = some (.xd fs) ∧ fs.lookup f = some v ∧ Q v H1
theorem pe_xfD0 {X : Cx} {a : Addr} {oe : Obj} {cls : Value} {d : Option Addr} {pn : List (Addr × Obj)} {e : Expr} {te : TE} {pos : Pos} {n : Str}
    (hz : Zc cls d oe) (hf : ∃ vs, oe.data = .fields vs) (he : PE (X.suite a ((a, oe) :: pn)) e te) (hb : attributeBase e n X.env (eval e X.env) = eval e X.env := by rfl) :
    PE (X.suite a ((a, oe) :: pn)) (.Attribute e n pos) (tXfD X.K a cls d n te) := by
  refine ⟨fun pins s σ H Q I h => ?_⟩
  have base : ∀ C, XfC X.K C → PySem.W.findIn X.K (.ref C) n = some none → PE (X.suite a ((a, oe) :: pn)) (.Attribute e n pos) (tXf a cls d C n te) := fun C T hno => pe_xf T hno hz hf he hb
  refine attr_of hb (thn (he.run pins s σ H _ I h) fun u s1 hh => ?_)
  obtain ⟨x, H1, I1, rx, ex, C, dd, fs, v, ec, T, hno, ed, ea, l, q⟩ := hh
  subst ex
  obtain rfl : u = Value.ref a := rx
  subst ec
  subst ed
  obtain ⟨ha, _⟩ := I1.pin (a, oe) (List.mem_append_left _ List.mem_cons_self)
  obtain ⟨vs, hd⟩ := hf
  obtain ⟨mA, hns, hr⟩ := I1.hok dd _ ea
  obtain ⟨od, ho, hl⟩ := lookIn_ns hns
  obtain ⟨u, hu, ru⟩ := RelO.some_of (v := v) (o := mA n) (by rw [← l]; exact hr n)
  have J : PySem.W.InstAt s1.heap a oe C (some od) := ⟨ha, hz.1, by unfold PySem.W.notCls; rw [hd] <;> rfl, by rw [hz.2]; exact ho⟩
  exact HandSPX.exc_get I1.kIn J T.ga T.gg T.exC (PySem.W.findObj_own T.hdC hno rfl (by rw [hl, hu])) (handed_of ru) ⟨v, H1, I1.tok _, ru, q⟩
theorem pe_xfD {X : Cx} (K : PySem.W.Frag) {a : Addr} {oe : Obj} {cls : Value} {d : Option Addr} {pn : List (Addr × Obj)} {e : Expr} {te : TE} {pos : Pos} {n : Str}
    (hz : Zc cls d oe) (hf : ∃ vs, oe.data = .fields vs) (he : PE (X.suite a ((a, oe) :: pn)) e te) (hb : attributeBase e n X.env (eval e X.env) = eval e X.env := by rfl) (h : X.K = K := by rfl) :
    PE (X.suite a ((a, oe) :: pn)) (.Attribute e n pos) (tXfD K a cls d n te) := h ▸ pe_xfD0 hz hf he hb
/-! ### an own class made, its methods called; what is raised goes to the taker -/
structure MkC (P : Program) (w : World) (K : PySem.W.Frag) (mg : Str → Option Value) (base : Heap) (k : Nat) (x : Str) (C : Addr) (ps : List Str) (sp : Sp) : Prop where
  g : mg x = some (.ref C)
  fn : ∃ (f : Addr) (fd : FuncData), Mk K C f ∧ Binds K fd ps [] ∧ FnOk P w K mg base (L2.CX P w) k f fd ps sp
structure MtC (P : Program) (w : World) (K : PySem.W.Frag) (mg : Str → Option Value) (base : Heap) (k : Nat) (C : Addr) (m : Str) (ps : List Str) (sp : Sp) : Prop where
  c : Cls K C
  fn : ∃ (f : Addr) (fd : FuncData), Meth K C m f ∧ PySem.W.fnIn K f = true ∧ Binds K fd ps [] ∧ FnOk P w K mg base (L2.CX P w) k f fd ps sp
section
variable {X : Cx} {k : Nat} {x m : Str} {C : Addr} {e o : Expr} {es : List Expr} {t : TA} {ta : TE} {p pos apos : Pos} {ps : List Str} {sp : Sp} {W : WX}
def tMakeS (C : Addr) (sp : Sp) (E : L2.St → XK) (t : TA) : TE := fun σ H Q => t σ H fun vs H1 => ∀ x dx, H1 x = none → H1 dx = none → dx ≠ x →
  sp (.ref x :: vs) (upd (upd H1 dx (.own x)) x (.ins C dx [])) (fun v H2 => v = .non ∧ Q (.ref x) H2) (E σ)
theorem run_makeS {f : Addr} {fd : FuncData} {pins : List (Addr × Obj)} {σ : L2.St} {H : Hp} {s : Shared} {Q : VK} {us : List Value} {vs : List V} (M : Mk X.K C f) (F : FnOk X.prog X.w X.K X.mg X.base (L2.CX X.prog X.w) k f fd ps sp) (hr : Room (k + 1) X.A) (hb : Binds X.K fd ps [])
    (tk : Takes X W) (I : Inv X pins σ H s) (r : Vals vs us)
    (h : ∀ x dx, H x = none → H dx = none → dx ≠ x → sp (.ref x :: vs) (upd (upd H dx (.own x)) x (.ins C dx [])) (fun v H2 => v = .non ∧ Q (.ref x) H2) (WE W σ)) :
    wpAny (model X.prog X.w) X.A (call (.ref C) us) (EP X pins σ Q) X.xe s := by
  have hq := h (s.heap.objs.size + 1) s.heap.objs.size (I.hok.fresh (Nat.le_succ _)) (I.hok.fresh (Nat.le_refl _)) (Nat.ne_of_lt (Nat.lt_succ_self _))
  have I2 := Inv.made (C := C) I
  have r2 : Vals (V.ref (s.heap.objs.size + 1) :: vs) (Value.ref (s.heap.objs.size + 1) :: us) := .cons rfl r
  have hl : (Value.ref (s.heap.objs.size + 1) :: us).length = ps.length := by
    have e := r2.length
    rw [F.len _ _ _ _ hq] at e
    exact e.symm
  have hb2 := hb _ (Value.ref (s.heap.objs.size + 1) :: us) I2.kIn (by rw [List.append_nil]; exact hl)
  rw [List.append_nil] at hb2
  refine wpAny_call (make_map (f := f) I.kIn M.makes M.init (beq_iff_eq.mp M.fn) (codeAny_mono (F.run _ X.stack _ _ ⟨Value.ref (s.heap.objs.size + 1) :: us, []⟩ (Value.ref (s.heap.objs.size + 1) :: us) _ _ (WE W σ) (hr.make C us [])
    (I2.env0.make C us []) hb2 r2 hq) fun r s' hq' => ?_))
  cases r with
  | error e => exact passAt tk σ pins _ _ e s' I2 hq'
  | ok fl =>
    cases fl with
    | ret u =>
      obtain ⟨v, H', I3, rv, ev, q3⟩ := I2.after hq'
      subst ev
      exact ⟨rv, ⟨V.ref (s.heap.objs.size + 1), H', I3, rfl, q3⟩⟩
    | next => exact False.elim hq'
    | brk => exact False.elim hq'
    | cont => exact False.elim hq'
theorem q_make (M : MkC X.prog X.w X.K X.mg X.base k x C ps sp) (tk : Takes X W) (hr : Room (k + 1) X.A) (ha : PA X (e :: es) t) (hg : Gl X x := by rfl) (hdb : (x == ("__debug__" : Str)) = false := by decide)
    (he : starEach (e :: es) X.env = (false, eval e X.env) :: starEach es X.env := by rfl) (hpl : (backTo pos (starEach es X.env)).any (·.1) = false := by rfl) :
    PE X (.Call (.Name x p) (e :: es) [] pos) (tMakeS C sp (WE W) t) := by
  obtain ⟨f, fd, M1, hb, F⟩ := M.fn
  refine ⟨fun pins s σ H Q I h => ?_⟩
  refine wpAny_Call_Name_kw (ld_glob I hg M.g ?_ hdb)
  refine PySem.W.callWith_K (h₀ := X.base) I.ok.mod.kin M1.kp (thn (ha.run pos pins s σ H _ I h) fun us s1 ⟨vs, H1, I1, r, q⟩ => ⟨I1.kIn, ?_⟩) he hpl
  exact run_makeS M1 F hr hb tk I1 r q
theorem q_make0 (M : MkC X.prog X.w X.K X.mg X.base k x C ps sp) (tk : Takes X W) (hr : Room (k + 1) X.A) (hg : Gl X x := by rfl) (hdb : (x == ("__debug__" : Str)) = false := by decide) :
    PE X (.Call (.Name x p) [] [] pos) (tMakeS C sp (WE W) tNil) := by
  obtain ⟨f, fd, M1, hb, F⟩ := M.fn
  refine ⟨fun pins s σ H Q I h => ?_⟩
  refine wpAny_Call_Name_kw (ld_glob I hg M.g ?_ hdb)
  exact PySem.W.callWith_K0 I.kIn M1.kp (run_makeS (us := []) M1 F hr hb tk I .nil h)
theorem g_make {C : Addr} {sp : Sp} {E : L2.St → XK} {t : TA} {σ : L2.St} {H : Hp} {Q : VK} (h : t σ H fun vs H1 => ∀ x dx, H1 x = none → H1 dx = none → dx ≠ x →
    sp (.ref x :: vs) (upd (upd H1 dx (.own x)) x (.ins C dx [])) (fun v H2 => v = .non ∧ Q (.ref x) H2) (E σ)) : tMakeS C sp E t σ H Q := h
/-- o.m(..) -/
def tMethS (C : Addr) (m : Str) (sp : Sp) (E : L2.St → XK) (ta : TE) (t : TA) : TE := fun σ H Q => ta σ H fun x H1 => ∃ a dx fs, x = .ref a ∧ H1 a = some (.ins C dx fs) ∧ fs.lookup m = none ∧ t σ H1 fun vs H2 => sp (x :: vs) H2 Q (E σ)
theorem q_meth {pl : Sem Bool} (M : MtC X.prog X.w X.K X.mg X.base k C m ps sp) (tk : Takes X W) (hr : Room k X.A) (he : PE X o ta) (ha : PA X (e :: es) t)
    (hst : starEach (e :: es) X.env = (false, eval e X.env) :: starEach es X.env := by rfl) (hpl : (backTo pos (starEach es X.env)).any (·.1) = false := by rfl)
    (ht : eval (.Call (.Attribute o m apos) (e :: es) [] pos) X.env = (do
      let ov ← eval o X.env
      standAt apos.atName
      let (f, first) ← holding [ov] (getMethod ov m pl)
      callWith pos f first (backTo pos (starEach (e :: es) X.env)) (backToKw pos (keywordEach [] X.env))) := by rfl) :
    PE X (.Call (.Attribute o m apos) (e :: es) [] pos) (tMethS C m sp (WE W) ta t) := by
  obtain ⟨f, fd, hm, _, hb, F⟩ := M.fn
  refine ⟨fun pins s σ H Q I h => ?_⟩
  refine PySem.W.methodCall_KW (pl := pl) (thn (he.run pins s σ H _ I h) fun u s1 ⟨x, H1, I1, rx, a, dx, fs, ex, ea, l, q⟩ => ?_) ht
  subst ex
  obtain rfl : u = Value.ref a := rx
  refine getmeth_ok I1 ea M.c hm l ?_
  refine PySem.W.callWith_K (first := [.ref a]) (h₀ := X.base) I.ok.mod.kin hm.kp (thn (ha.run pos pins s1 σ H1 _ I1 q) fun us s2 ⟨vs, H2, I2, r, q2⟩ => ⟨I2.kIn, ?_⟩) hst hpl
  exact run_fnS (us := .ref a :: us) (vs := .ref a :: vs) (E := WE W) F hr hb (passAt tk σ) I2 (.cons rfl r) q2
theorem q_meth0 {pl : Sem Bool} (M : MtC X.prog X.w X.K X.mg X.base k C m ps sp) (tk : Takes X W) (hr : Room k X.A) (he : PE X o ta)
    (ht : eval (.Call (.Attribute o m apos) [] [] pos) X.env = (do
      let ov ← eval o X.env
      standAt apos.atName
      let (f, first) ← holding [ov] (getMethod ov m pl)
      callWith pos f first (backTo pos (starEach [] X.env)) (backToKw pos (keywordEach [] X.env))) := by rfl) :
    PE X (.Call (.Attribute o m apos) [] [] pos) (tMethS C m sp (WE W) ta tNil) := by
  obtain ⟨f, fd, hm, _, hb, F⟩ := M.fn
  refine ⟨fun pins s σ H Q I h => ?_⟩
  refine PySem.W.methodCall_KW (pl := pl) (thn (he.run pins s σ H _ I h) fun u s1 ⟨x, H1, I1, rx, a, dx, fs, ex, ea, l, q⟩ => ?_) ht
  subst ex
  obtain rfl : u = Value.ref a := rx
  refine getmeth_ok I1 ea M.c hm l ?_
  exact PySem.W.callWith_K0 (first := [.ref a]) I1.kIn hm.kp (run_fnS (us := [.ref a]) (vs := [.ref a]) (E := WE W) F hr hb (passAt tk σ) I1 (.cons rfl .nil) q)
theorem g_meth {C : Addr} {m : Str} {sp : Sp} {E : L2.St → XK} {ta : TE} {t : TA} {σ : L2.St} {H : Hp} {Q : VK} (h : ta σ H fun x H1 => ∃ a dx fs, x = .ref a ∧ H1 a = some (.ins C dx fs) ∧ fs.lookup m = none ∧ t σ H1 fun vs H2 => sp (x :: vs) H2 Q (E σ)) : tMethS C m sp E ta t σ H Q := h
end
end NL
namespace NL
open PySem L2
/-! ### facts of the written part, asked once at the head -/
def oexB (K : PySem.W.Frag) (C : Addr) : Bool := (match K.lookup C with
  | some ⟨.type t, _, .cls cd, sl⟩ => decide (t = "type") && (match cd.mro, sl.toList with
    | .ref c :: bm, [_, _, _, _, some (.builtin n), _] => decide (c = C) && (decide (n = "ValueError.__new__") && (!cd.hasDel && (cd.hasDict && PySem.HandSPX.refsVE bm)))
    | _, _ => false)
  | _ => false) && (decide (PySem.W.findIn K (.ref C) "__setattr__" = some (some (.builtin "object.__setattr__"))) && (decide (PySem.W.subIn K (.ref C) (.type "BaseException") = some true) && (decide (PySem.W.typeIn K (.ref C) = some (.type "type")) && PySem.W.keepIn K (.ref C))))
theorem oexB_ok {K : PySem.W.Frag} {C : Addr} (h : oexB K C = true) : OexC K C := by
  unfold oexB at h
  simp only [Bool.and_eq_true, decide_eq_true_eq] at h
  obtain ⟨h0, h1, h2, h3, h4⟩ := h
  refine ⟨?_, h1, h2, h3, h4⟩
  split at h0
  · rename_i t dd cd sl ho
    simp only [Bool.and_eq_true, decide_eq_true_eq] at h0
    obtain ⟨rfl, h0⟩ := h0
    split at h0
    · rename_i c bm k0 k1 k2 k3 n k5 hm hs
      simp only [Bool.and_eq_true, decide_eq_true_eq, Bool.not_eq_true'] at h0
      obtain ⟨rfl, rfl, hdel, hd, hr⟩ := h0
      obtain ⟨nm, bs, mro, ns, qn, hd', sn, sub, ab, col, del⟩ := cd
      dsimp only at hm hdel hd
      subst hm hdel hd
      have hsl : sl = #[k0, k1, k2, k3, some (.builtin "ValueError.__new__"), k5] := by
        obtain ⟨l⟩ := sl
        simp only at hs
        rw [hs]
      subst hsl
      exact ⟨nm, qn, ns, bs, bm, sn, sub, ab, col, dd, k0, k1, k2, k3, k5, ho, hr⟩
    · cases h0
  · cases h0
def excB (K : PySem.W.Frag) (D : Addr) : Bool := decide (PySem.W.findIn K (.ref D) "__getattribute__" = some (some (.builtin "BaseException.__getattribute__"))) && (decide (PySem.W.findIn K (.ref D) "__getattr__" = some none) && (decide (PySem.W.subIn K (.ref D) (.type "BaseException") = some true) && (PySem.W.hasDictIn K D &&
  (decide (PySem.W.findIn K (.ref D) "__class__" = some (some (.builtin "object.__class__"))) && (decide (PySem.W.specialIn K (.builtin "object.__class__") "__get__" = some (some (.builtin "getset_descriptor.__get__"))) && (decide (PySem.W.takesIn K (.builtin "object.__class__") = some true) && decide (PySem.W.mroIn K D (.type "object") = some true)))))))
theorem excB_ok {K : PySem.W.Frag} {D : Addr} (h : excB K D = true) : ExcC K D := by
  unfold excB at h
  simp only [Bool.and_eq_true, decide_eq_true_eq] at h
  obtain ⟨h1, h2, h3, h4, h5, h6, h7, h8⟩ := h
  exact ⟨h1, h2, h3, h4, h5, h6, h7, h8⟩
/-- a class by its name: a module's one, or a built-in type -/
inductive Cn where
  | own (x : Str) | ty (n : String)
def Cn.v (K : PySem.W.Frag) : Cn → Value
  | .own x => .ref (He.ga K x)
  | .ty n => .type n
inductive Fx where
  | fa (f : He.Fa)
  /-- an own exception class with a dict -/
  | oex (x : Str)
  | fnI (x : Str)
  | excC (x : Str)
  | xf (x : Str)
  /-- isinstance of an x in y -/
  | kit (x : Str) (y : Cn) (b : Bool)
  | tup (x : Str) (vs : List He.Dv)
  | fnF (x m : Str)
def fnB (K : PySem.W.Frag) (x : Str) : Bool := He.eqO (PySem.W.findIn K (.ref (He.ga K x)) "__init__") (some (some (.ref (He.ma K (He.ga K x) "__init__")))) && decide (PySem.W.typeIn K (.ref (He.ma K (He.ga K x) "__init__")) = some (.type "function"))
def Fx.ok (K : PySem.W.Frag) : Fx → Bool
  | .fa f => f.ok K
  | .oex x => oexB K (He.ga K x)
  | .fnI x => fnB K x
  | .excC x => excB K (He.ga K x)
  | .xf x => xfB K (He.ga K x)
  | .kit x y b => decide (PySem.W.kitOne K (.ref (He.ga K x)) (y.v K) = some b)
  | .tup x vs => He.tupB K x vs
  | .fnF x m => PySem.W.fnIn K (He.ma K (He.ga K x) m)
def fxB (l : List Fx) (K : PySem.W.Frag) : Bool := l.all fun f => f.ok K
theorem fxB_at {l : List Fx} {K : PySem.W.Frag} (h : fxB l K = true) (i : Nat) {f : Fx} (e : l[i]? = some f := by rfl) : f.ok K = true :=
  List.all_eq_true.mp h f (List.mem_of_getElem? e)
section
variable {K : PySem.W.Frag} {h : Heap} {mg : Str → Option Value} {l : List Fx}
theorem fx_glo (X : K.In h) (G : h.Ns mainGlobals mg) (c : fxB l K = true) (i : Nat) {x : Str} (e : l[i]? = some (.fa (.glo x)) := by rfl) : mg x = some (.ref (He.ga K x)) := He.glo_ok X G (fxB_at c i e)
theorem fx_free (X : K.In h) (G : h.Ns mainGlobals mg) (c : fxB l K = true) (i : Nat) {x : Str} (e : l[i]? = some (.fa (.free x)) := by rfl) : mg x = none := He.free_ok X G (fxB_at c i e)
theorem fx_int (X : K.In h) (G : h.Ns mainGlobals mg) (c : fxB l K = true) (i : Nat) {x : Str} {n : Int} (e : l[i]? = some (.fa (.int x n)) := by rfl) : GV mg x (.int n) := by
  obtain ⟨t, q⟩ := He.int_ok X G (fxB_at c i e)
  exact ⟨_, q, t, rfl⟩
theorem fx_cls (c : fxB l K = true) (i : Nat) {x : Str} (e : l[i]? = some (.fa (.cls x)) := by rfl) : Cls K (He.ga K x) := He.cls_ok (fxB_at c i e)
theorem fx_noat (c : fxB l K = true) (i : Nat) {x f : Str} (e : l[i]? = some (.fa (.noat x f)) := by rfl) : NoAttr K (He.ga K x) f := He.noat_ok (fxB_at c i e)
theorem fx_meth (c : fxB l K = true) (i : Nat) {x m : Str} (e : l[i]? = some (.fa (.meth x m)) := by rfl) : Meth K (He.ga K x) m (He.ma K (He.ga K x) m) := He.meth_ok (fxB_at c i e)
theorem fx_fnF (c : fxB l K = true) (i : Nat) {x m : Str} (e : l[i]? = some (.fnF x m) := by rfl) : PySem.W.fnIn K (He.ma K (He.ga K x) m) = true := fxB_at c i e
theorem fx_mkr (c : fxB l K = true) (i : Nat) {x : Str} (e : l[i]? = some (.fa (.mkr x)) := by rfl) : Mk K (He.ga K x) (He.ma K (He.ga K x) "__init__") := He.mkr_ok (fxB_at c i e)
theorem fx_exm (c : fxB l K = true) (i : Nat) {x y : Str} {b : Bool} (e : l[i]? = some (.fa (.exm x y b)) := by rfl) : PySem.W.exmOne K (.ref (He.ga K x)) (.ref (He.ga K y)) = some b := He.exm_ok (fxB_at c i e)
theorem fx_oex (c : fxB l K = true) (i : Nat) {x : Str} (e : l[i]? = some (.oex x) := by rfl) : OexC K (He.ga K x) := oexB_ok (fxB_at c i e)
theorem fx_exc (c : fxB l K = true) (i : Nat) {x : Str} (e : l[i]? = some (.excC x) := by rfl) : ExcC K (He.ga K x) := excB_ok (fxB_at c i e)
theorem fx_xf (c : fxB l K = true) (i : Nat) {x : Str} (e : l[i]? = some (.xf x) := by rfl) : XfC K (He.ga K x) := xfB_ok (fxB_at c i e)
theorem fx_kit (c : fxB l K = true) (i : Nat) {x : Str} {y : Cn} {b : Bool} (e : l[i]? = some (.kit x y b) := by rfl) : PySem.W.kitOne K (.ref (He.ga K x)) (y.v K) = some b := of_decide_eq_true (fxB_at c i e)
theorem fx_tup (c : fxB l K = true) (i : Nat) {x : Str} {vs : List He.Dv} (e : l[i]? = some (.tup x vs) := by rfl) (H : Hp) : SqT K H (He.ga K x) (vs.map (He.Dv.v K)) := He.tupB_ok (fxB_at c i e) H
theorem fx_fnI (c : fxB l K = true) (i : Nat) {x : Str} (e : l[i]? = some (.fnI x) := by rfl) : PySem.W.findIn K (.ref (He.ga K x)) "__init__" = some (some (.ref (He.ma K (He.ga K x) "__init__"))) ∧ PySem.W.typeIn K (.ref (He.ma K (He.ga K x) "__init__")) = some (.type "function") := by
  have q : fnB K x = true := fxB_at c i e
  unfold fnB at q
  simp only [Bool.and_eq_true, decide_eq_true_eq] at q
  exact ⟨He.eqO_ok q.1, q.2⟩
end
theorem hCX {P : Program} (w : World) (H : Hp) (s : Shared) (e : Value) (s' : Shared) (h : L2.CX P w [] H s (fun _ _ _ => False) e s') : False := by
  obtain ⟨_, _, _, _, _, _, _, _, _, _, _, _, z⟩ := h
  exact z
end NL
namespace NL
open PySem L2
/-! ### match over texts: written texts, | of them, _ ; a guard -/
section
variable {X : Cx} {K : PySem.W.Frag}
/-- the pattern p fits the text a iff a is among ks -/
def PPat (X : Cx) (p : Pattern) (ks : List Str) : Prop := ∀ (pins : List (Addr × Obj)) (s : Shared) (σ : L2.St) (H : Hp) (a : Str) (t : Nat), Inv X pins σ H s →
  wpAny (model X.prog X.w) X.A (matchPattern p X.env (.str a t)) (fun r s' => Inv X pins σ H s' ∧ r = if a ∈ ks then some [] else none) X.xe s
theorem pp_val {k : Str} {j : Nat} {p pos : Pos} : PPat X (.MatchValue (.Constant (.str k) j p) pos) [k] := by
  intro pins s σ H a t I
  refine wpAny_matchPattern_Value ?_
  refine thn ((pe_str (X := X) (x := k) (j := j) (pos := p)).run pins s σ H (fun x H' => x = .str k ∧ H' = H) I ⟨rfl, rfl⟩) fun u s1 ⟨x, H1, I1, rx, ex, eH⟩ => ?_
  subst ex eH
  refine thn (op_eq pins s1 σ H1 (.str a) (.str k) (.str a t) u (fun z H' => z = .bl (decide (a = k)) ∧ H' = H1) I1 ⟨t, rfl⟩ rx ⟨rfl, by rw [dec_s]; exact ⟨rfl, rfl⟩⟩) fun c s2 ⟨z, H2, I2, rz, ez, eH2⟩ => ?_
  subst ez eH2
  obtain rfl : c = Value.bool (decide (a = k)) := rz
  refine wpAny_truthy_bool ?_
  by_cases h : a = k
  · rw [decide_eq_true h, if_pos rfl]
    exact ⟨I2, by rw [if_pos (by simpa using h)]⟩
  · rw [decide_eq_false h, if_neg Bool.false_ne_true]
    exact ⟨I2, by rw [if_neg (by simpa using h)]⟩
/-- the patterns of an |, from the left -/
def PPats (X : Cx) (ps : List Pattern) (ks : List Str) : Prop := ∀ (pins : List (Addr × Obj)) (s : Shared) (σ : L2.St) (H : Hp) (a : Str) (t : Nat), Inv X pins σ H s →
  wpAny (model X.prog X.w) X.A (matchFirst ps X.env (.str a t)) (fun r s' => Inv X pins σ H s' ∧ r = if a ∈ ks then some [] else none) X.xe s
theorem ppl_nil : PPats X [] [] := fun pins s σ H a t I => wpAny_matchFirst_nil ⟨I, by rw [if_neg (List.not_mem_nil)]⟩
theorem ppl_cons {p : Pattern} {ps : List Pattern} {ks ls : List Str} (h1 : PPat X p ks) (h2 : PPats X ps ls) : PPats X (p :: ps) (ks ++ ls) := by
  intro pins s σ H a t I
  refine wpAny_matchFirst_cons (thn (h1 pins s σ H a t I) fun r s1 ⟨I1, e⟩ => ?_)
  by_cases h : a ∈ ks
  · rw [if_pos h] at e
    subst e
    exact ⟨I1, by rw [if_pos (List.mem_append_left _ h)]⟩
  · rw [if_neg h] at e
    subst e
    refine thn (h2 pins s1 σ H a t I1) fun r s2 ⟨I2, e2⟩ => ⟨I2, ?_⟩
    rw [e2]
    by_cases g : a ∈ ls
    · rw [if_pos g, if_pos (List.mem_append_right _ g)]
    · rw [if_neg g, if_neg (fun z => (List.mem_append.mp z).elim h g)]
theorem pp_or {ps : List Pattern} {ks : List Str} {pos : Pos} (h : PPats X ps ks) (hn : namesOfAll (ps.take 1) = [] := by rfl) : PPat X (.MatchOr ps pos) ks := by
  intro pins s σ H a t I
  refine wpAny_matchPattern_Or (thn (h pins s σ H a t I) fun r s1 ⟨I1, e⟩ => ?_)
  subst e
  by_cases g : a ∈ ks
  · rw [if_pos g]
    refine ⟨I1, ?_⟩
    rw [hn]
    rfl
  · rw [if_neg g]
    exact ⟨I1, rfl⟩
/-- the cases of a match, by the text -/
def PMc (X : Cx) (cs : List MatchCase) (t : Str → TS) : Prop := ∀ (first : Bool) (pins : List (Addr × Obj)) (s : Shared) (σ : L2.St) (H : Hp) (D : Ends) (a : Str) (k : Nat), Inv X pins σ H s → t a D σ H →
  wpAny (model X.prog X.w) X.A (matchCases cs X.env (.str a k) first) (SP X pins D) X.xe s
def tMnil : Str → TS := fun _ D σ H => D.nx σ H
def tMcs (ks : List Str) (tb : TS) (tr : Str → TS) : Str → TS := fun a D σ H => if decide (a ∈ ks) = true then tb D σ H else tr a D σ H
def tMcg (ks : List Str) (tg : TT) (tb : TS) (tr : Str → TS) : Str → TS := fun a D σ H => if decide (a ∈ ks) = true then tg σ H (fun b H1 => if b = true then tb D σ H1 else tr a D σ H1) else tr a D σ H
def tMany (tb : TS) : Str → TS := fun _ D σ H => tb D σ H
theorem pmc_nil : PMc X [] tMnil := fun _ pins s σ H D a k I h => wpAny_matchCases_nil ⟨σ, H, I, h⟩
theorem pmc_cons {p : Pattern} {ks : List Str} {b : List Stmt} {r : List MatchCase} {tb : TS} {tr : Str → TS} (hp : PPat X p ks) (hb : PSs X b tb) (hr : PMc X r tr) : PMc X (⟨p, none, b⟩ :: r) (tMcs ks tb tr) := by
  intro first pins s σ H D a k I h
  refine wpAny_matchCases_cons (thn (hp pins s σ H a k I) fun o s1 ⟨I1, e⟩ => ?_)
  subst e
  unfold tMcs at h
  by_cases g : a ∈ ks
  · rw [if_pos g]
    rw [decide_eq_true g, if_pos rfl] at h
    exact wpAny_assignInOrder_none (hb.run pins s1 σ H D I1 h)
  · rw [if_neg g]
    rw [decide_eq_false g, if_neg Bool.false_ne_true] at h
    exact hr false pins s1 σ H D a k I1 h
theorem pmc_consG {p : Pattern} {ks : List Str} {g : Expr} {b : List Stmt} {r : List MatchCase} {tg : TT} {tb : TS} {tr : Str → TS} (hp : PPat X p ks) (hg : PT X g tg) (hb : PSs X b tb) (hr : PMc X r tr) : PMc X (⟨p, some g, b⟩ :: r) (tMcg ks tg tb tr) := by
  intro first pins s σ H D a k I h
  refine wpAny_matchCases_cons (thn (hp pins s σ H a k I) fun o s1 ⟨I1, e⟩ => ?_)
  subst e
  unfold tMcg at h
  by_cases q : a ∈ ks
  · rw [if_pos q]
    rw [decide_eq_true q, if_pos rfl] at h
    refine wpAny_assignInOrder_none (thn (hg.run pins s1 σ H _ I1 h) fun ok s2 ⟨H2, I2, q2⟩ => ?_)
    cases ok with
    | true => exact hb.run pins s2 σ H2 D I2 q2
    | false => exact hr false pins s2 σ H2 D a k I2 q2
  · rw [if_neg q]
    rw [decide_eq_false q, if_neg Bool.false_ne_true] at h
    exact hr false pins s1 σ H D a k I1 h
theorem pmc_any {b : List Stmt} {tb : TS} {pos : Pos} (hb : PSs X b tb) : PMc X [⟨.MatchAs none none pos, none, b⟩] (tMany tb) := by
  intro first pins s σ H D a k I h
  refine wpAny_matchCases_cons (wpAny_matchPattern_Capture ?_)
  exact wpAny_assignInOrder_none (hb.run pins s σ H D I h)
def tMatch (te : TE) (tc : Str → TS) : TS := fun D σ H => te σ H fun x H1 => ∃ a, x = .str a ∧ tc a D σ H1
theorem ps_match {e : Expr} {cs : List MatchCase} {te : TE} {tc : Str → TS} {pos : Pos} (he : PE X e te) (hc : PMc X cs tc) : PS X (.Match e cs pos) (tMatch te tc) := by
  refine ⟨fun pins s σ H D I h => ?_⟩
  refine wpAny_Match (thn (he.run pins s σ H _ I h) fun u s1 ⟨x, H1, I1, rx, a, ex, q⟩ => ?_)
  subst ex
  obtain ⟨t, rfl⟩ := (show ∃ t, u = Value.str a t from rx)
  exact hc true pins s1 σ H1 D a t I1 q
variable {σ : L2.St} {H : Hp} {D : Ends} {a : Str} {ks : List Str}
theorem g_match {te : TE} {tc : Str → TS} (h : te σ H fun x H1 => ∃ a, x = .str a ∧ tc a D σ H1) : tMatch te tc D σ H := h
theorem g_matched {Z : Str → Prop} (h : Z a) : ∃ b, V.str a = .str b ∧ Z b := ⟨a, rfl, h⟩
theorem g_mcs {tb : TS} {tr : Str → TS} (h : if decide (a ∈ ks) = true then tb D σ H else tr a D σ H) : tMcs ks tb tr a D σ H := h
theorem g_mcg {tg : TT} {tb : TS} {tr : Str → TS} (h : if decide (a ∈ ks) = true then tg σ H (fun b H1 => if b = true then tb D σ H1 else tr a D σ H1) else tr a D σ H) : tMcg ks tg tb tr a D σ H := h
theorem g_many {tb : TS} (h : tb D σ H) : tMany tb a D σ H := h
theorem g_mnil {nx : L2.St → Hp → Prop} {rt : VK} {bk ct : L2.St → Hp → Prop} (h : nx σ H) : tMnil a ⟨nx, rt, bk, ct⟩ σ H := h
/-! ### fields -/
theorem q_afld (K : PySem.W.Frag) {o value : Expr} {f : Str} {pos tpos : Pos} {ta tv : TE} {op : Operator} {rd : V → V → Hp → VK → Prop} (ha : PE X o ta) (hv : PE X value tv) (hop : InOp X op rd) (h : X.K = K := by rfl) :
    PS X (.AugAssign (.Attribute o f tpos) op value pos) (sFldAug K ta tv rd f) := h ▸ ps_fldaug ha hv hop
theorem g_afld {ta tv : TE} {rd : V → V → Hp → VK → Prop} {f : Str} {nx : L2.St → Hp → Prop} {rt : VK} {bk ct : L2.St → Hp → Prop} (h : ta σ H fun x H1 => ∃ a C dx fs v, x = .ref a ∧ H1 a = some (.ins C dx fs) ∧ Cls K C ∧ NoAttr K C f ∧ fs.lookup f = some v ∧
    tv σ H1 fun y H2 => rd v y H2 fun z H3 => ∃ dx' fs', H3 a = some (.ins C dx' fs') ∧ fs'.length < 1000 ∧ nx σ (upd H3 a (.ins C dx' (putF f z fs')))) : sFldAug K ta tv rd f ⟨nx, rt, bk, ct⟩ σ H := h
theorem g_rAdd {i j : Int} {Q : VK} (h : Q (.int (i + j)) H) : rAdd (.int i) (.int j) H Q := ⟨i, j, rfl, rfl, h⟩
theorem g_rSub {i j : Int} {Q : VK} (h : Q (.int (i - j)) H) : rSub (.int i) (.int j) H Q := ⟨i, j, rfl, rfl, h⟩
theorem g_af {p C dx : Addr} {fs : List (Str × V)} {Z : Addr → List (Str × V) → Prop} (z1 : H p = some (.ins C dx fs)) (z4 : fs.length < 1000) (h : Z dx fs) : ∃ dx' fs', H p = some (.ins C dx' fs') ∧ fs'.length < 1000 ∧ Z dx' fs' := ⟨dx, fs, z1, z4, h⟩
theorem g_gfa {p C dx : Addr} {fs : List (Str × V)} {f : Str} {v : V} {Z : Addr → Addr → V → Prop} (z1 : H p = some (.ins C dx fs)) (z2 : Cls K C) (z3 : NoAttr K C f) (z4 : fs.lookup f = some v) (h : Z p C v) :
    ∃ a C dx fs v, V.ref p = .ref a ∧ H a = some (.ins C dx fs) ∧ Cls K C ∧ NoAttr K C f ∧ fs.lookup f = some v ∧ Z a C v := ⟨p, C, dx, fs, v, rfl, z1, z2, z3, z4, h⟩
theorem g_mt {p C dx : Addr} {fs : List (Str × V)} {m : Str} {Z : Prop} (z1 : H p = some (.ins C dx fs)) (z2 : fs.lookup m = none) (h : Z) : ∃ a dx fs, V.ref p = .ref a ∧ H a = some (.ins C dx fs) ∧ fs.lookup m = none ∧ Z := ⟨p, dx, fs, rfl, z1, z2, h⟩
theorem g_allP {W R G : Prop} (main : (W → R) → G) (rest : W → R) : G := main rest
theorem putF_nil {f : Str} {v : V} : putF f v [] = [(f, v)] := rfl
theorem putF_eq {f : Str} {v w : V} {r : List (Str × V)} : putF f v ((f, w) :: r) = (f, v) :: r := by show (if f = f then _ else _) = _; rw [if_pos rfl]
theorem putF_ne {f g : Str} {v w : V} {r : List (Str × V)} (h : ¬ g = f) : putF f v ((g, w) :: r) = (g, w) :: putF f v r := by show (if g = f then _ else _) = _; rw [if_neg h]
theorem g_ite_refl {α : Type} [DecidableEq α] {x : α} {A B : Prop} (h : B) : if (!decide (x = x)) = true then A else B := by
  rw [show (!decide (x = x)) = false by simp]
  exact iteF h
theorem g_ite_reflT {α : Type} [DecidableEq α] {x : α} {A B : Prop} (h : A) : if decide (x = x) = true then A else B := by
  rw [show decide (x = x) = true by simp]
  exact iteT h
end
theorem g_isi {K : PySem.W.Frag} {H : Hp} {Q : VK} {x c : V} {t u : Value} {b : Bool} (h1 : ClsV c u) (h2 : TyX K H x t) (h3 : PySem.W.kitOne K t u = some b) (h : Q (.bl b) H) : dIsi K [x, c] H Q := ⟨x, c, t, u, b, rfl, h1, h2, h3, h⟩
end NL
namespace NL
open PySem L2
/-! ### an own object that is called -/
/-- callWith of an instance: where the arguments are made it is an instance still -/
theorem callWith_inst {M : Model} {A : Around} {E : Value → Shared → Prop} {s : Shared} {pos : Pos} {x : Addr} {Q : Value → Shared → Prop} {args : List (Bool × Sem Value)} (hplain : args.any (·.1) = false)
    (h : wpAny M A (evalArgs (.ref x) true args []) (fun a s₁ => (∃ C ox od, ox.data = .plain ∧ PySem.W.InstAt s₁.heap x ox C od) ∧ wpAny M A (call (.ref x) a.pos a.kw) Q E s₁) E s) :
    wpAny M A (callWith pos (.ref x) [] args []) Q E s := by
  unfold callWith
  refine wpAny_bind (wpAny_holding (thn h fun a s1 hh => ?_))
  obtain ⟨⟨C, ox, od, hd, J⟩, hc⟩ := hh
  refine wpAny_bind (wpAny_standAt ?_)
  have hk := PySem.W.kco_keeper (M := M) J hd
  have hp : (args.any (·.1) || List.any (α := Option Str × Sem Value) [] (·.1.isNone)) = false := by rw [hplain]; rfl
  simp only [hp]
  refine wpAny_bind (hk.here ?_)
  have last : ∀ {t : Sem Value}, wpAny M A t Q E s1 → wpAny M A (do let r ← t; holding [r] point; pure r) Q E s1 := fun ht =>
    wpAny_bind (thn ht fun r s2 hr => wpAny_bind (wpAny_holding (wpAny_point (wpAny_pure hr))))
  exact last (wpAny_operateT hc)
section
variable {X : Cx} {k : Nat} {x : Str} {C : Addr} {e : Expr} {es : List Expr} {t : TA} {ta : TE} {p pos : Pos} {ps : List Str} {sp : Sp} {W : WX}
def tCallO (C : Addr) (sp : Sp) (E : L2.St → XK) (ta : TE) (t : TA) : TE := fun σ H Q => ta σ H fun x H1 => ∃ a dx fs, x = .ref a ∧ H1 a = some (.ins C dx fs) ∧ t σ H1 fun vs H2 => (∃ dx' fs', H2 a = some (.ins C dx' fs')) ∧ sp (x :: vs) H2 Q (E σ)
theorem q_callO (M : MtC X.prog X.w X.K X.mg X.base k C "__call__" ps sp) (tk : Takes X W) (hr : Room (k + 1) X.A) (hf : PE X (.Name x p) ta) (ha : PA X (e :: es) t)
    (he : starEach (e :: es) X.env = (false, eval e X.env) :: starEach es X.env := by rfl) (hpl : (backTo pos (starEach es X.env)).any (·.1) = false := by rfl) :
    PE X (.Call (.Name x p) (e :: es) [] pos) (tCallO C sp (WE W) ta t) := by
  obtain ⟨f, fd, hm, hfn, hb, F⟩ := M.fn
  refine ⟨fun pins s σ H Q I h => ?_⟩
  refine wpAny_Call_Name_kw (thn (hf.run pins s σ H _ I h) fun u s1 ⟨x, H1, I1, rx, a, dx, fs, ex, ea, q⟩ => ?_)
  subst ex
  obtain rfl : u = Value.ref a := rx
  show wpAny _ _ (callWith pos (.ref a) [] (backTo pos (starEach (e :: es) X.env)) []) _ _ _
  refine callWith_inst (by rw [he]; show (false || (backTo pos (starEach es X.env)).any (·.1)) = false; rw [hpl]; rfl) ?_
  have run := thn (ha.run pos pins s1 σ H1 _ I1 q) (Q' := fun us s2 => (∃ C ox od, ox.data = .plain ∧ PySem.W.InstAt s2.heap a ox C od) ∧ wpAny (model X.prog X.w) X.A (call (.ref a) us) (EP X pins σ Q) X.xe s2) fun us s2 ⟨vs, H2, I2, r, ⟨dx', fs', ea2⟩, q2⟩ => by
    obtain ⟨mA, O, _⟩ := ins_get I2.hok ea2
    obtain ⟨od, J, _⟩ := O.look
    refine ⟨⟨C, _, _, rfl, J⟩, ?_⟩
    have rr : Vals (V.ref a :: vs) (Value.ref a :: us) := Paired.cons rfl r
    have hl : (Value.ref a :: us).length = ps.length := by rw [← rr.length]; exact F.len _ _ _ _ q2
    have b := hb s2 (Value.ref a :: us) I2.kIn (by rw [List.append_nil]; exact hl)
    rw [List.append_nil] at b
    refine wpAny_call (PySem.W.kco_code (a := ⟨us, []⟩) I2.kIn J rfl hm.at_ hm.fn hfn ?_)
    refine codeAny_mono (F.run X.A X.stack s2 H2 ⟨Value.ref a :: us, []⟩ (Value.ref a :: us) (V.ref a :: vs) Q (WE W σ) (hr.mono (Nat.le_succ _)) I2.env0 b rr q2) fun r s' hq => ?_
    cases r with
    | error e => exact passAt tk σ pins H2 s2 e s' I2 hq
    | ok fl =>
      cases fl with
      | ret u => exact I2.after hq
      | next => exact False.elim hq
      | brk => exact False.elim hq
      | cont => exact False.elim hq
  rw [he] at run ⊢
  exact Calls.evalArgs_plain run
theorem g_callO {σ : L2.St} {H : Hp} {Q : VK} {E : L2.St → XK} (h : ta σ H fun x H1 => ∃ a dx fs, x = .ref a ∧ H1 a = some (.ins C dx fs) ∧ t σ H1 fun vs H2 => (∃ dx' fs', H2 a = some (.ins C dx' fs')) ∧ sp (x :: vs) H2 Q (E σ)) : tCallO C sp E ta t σ H Q := h
theorem g_co {H : Hp} {p dx : Addr} {fs : List (Str × V)} {Z : Addr → Prop} (z1 : H p = some (.ins C dx fs)) (h : Z p) : ∃ a dx fs, V.ref p = .ref a ∧ H a = some (.ins C dx fs) ∧ Z a := ⟨p, dx, fs, rfl, z1, h⟩
theorem g_ci {H : Hp} {p dx : Addr} {fs : List (Str × V)} {Z : Prop} (z1 : H p = some (.ins C dx fs)) (h : Z) : (∃ dx' fs', H p = some (.ins C dx' fs')) ∧ Z := ⟨⟨dx, fs, z1⟩, h⟩
end
theorem units1 {A : Around} (h : A.units + 64 < cLine) : A.units + 1 < cLine := by omega
/-! ### dicts -/
section
variable {X : Cx} {K : PySem.W.Frag} {σ : L2.St} {H : Hp} {Q : VK} {td ty tv : TE} {p : Addr} {kvs : List (Key × V)} {z : Str} {i : Int} {v : V}
theorem g_dget (h : td σ H fun x H1 => ty σ H1 fun y H2 => ∃ a v, x = .ref a ∧ DGet H2 a y (some v) ∧ Q v H2) : tDGet td ty σ H Q := h
theorem g_dgs {Z : V → Prop} (z1 : H p = some (.dK kvs)) (z2 : valV kvs (.inr z) = some v) (h : Z v) : ∃ a v, V.ref p = .ref a ∧ DGet H a (.str z) (some v) ∧ Z v :=
  ⟨p, v, rfl, .inl ⟨kvs, .inr z, .inl z1, rfl, z2.symm⟩, h⟩
theorem g_dgi {Z : V → Prop} (z1 : H p = some (.dK kvs)) (z2 : valV kvs (.inl i) = some v) (h : Z v) : ∃ a v, V.ref p = .ref a ∧ DGet H a (.int i) (some v) ∧ Z v :=
  ⟨p, v, rfl, .inl ⟨kvs, .inl i, .inl z1, rfl, z2.symm⟩, h⟩
theorem g_dnew (h : ∀ p, H p = none → Q (.ref p) (upd H p (.dK []))) : tDNewK σ H Q := h
theorem g_dput {nx : L2.St → Hp → Prop} {rt : VK} {bk ct : L2.St → Hp → Prop} (h : tv σ H fun v H1 => td σ H1 fun x H2 => ty σ H2 fun y H3 => ∃ a H4, x = .ref a ∧ DPut H3 a y v H4 ∧ nx σ H4) : sDPut td ty tv ⟨nx, rt, bk, ct⟩ σ H := h
theorem g_dps {Z : Hp → Prop} (z1 : H p = some (.dK kvs)) (z2 : kvs.length < sizeLine) (h : Z (upd H p (.dK (putK kvs (.inr z) v)))) : ∃ a H4, V.ref p = .ref a ∧ DPut H a (.str z) v H4 ∧ Z H4 :=
  ⟨p, _, rfl, .inl ⟨kvs, .inr z, z1, rfl, z2, rfl⟩, h⟩
theorem cl_all0 (hc : X.calm = true) : CallR X (.builtin "all") (rAll X.K) := cr_all hc
theorem cl_all (K : PySem.W.Frag) (hc : X.calm = true := by rfl) (h : X.K = K := by rfl) : CallR X (.builtin "all") (rAll K) := h ▸ cl_all0 hc
theorem g_alls {bs : List Bool} (z : SqL K H p (bs.map V.bl)) (h : Q (.bl (bs.all id)) H) : rAll K [.ref p] H Q := ⟨p, bs, rfl, z, h⟩
end
end NL
namespace NL
open PySem L2
/-! ### edges: from a heap to the next; what lies in U may change, nothing goes -/
def Ed (U : List Addr) (H H' : Hp) : Prop := (∀ a o, a ∉ U → H a = some o → H' a = some o) ∧ ∀ a, H a ≠ none → H' a ≠ none
section
variable {U U' W : List Addr} {H H' H0 H1 H2 : Hp} {a b p : Addr} {o : HO}
theorem no0 {P : Addr → Prop} : ∀ a ∈ ([] : List Addr), P a := fun _ z => absurd z List.not_mem_nil
theorem Ed.refl : Ed U H H := ⟨fun _ _ _ e => e, fun _ h => h⟩
theorem Ed.free (e : Ed U H H') (h : H' a = none) : H a = none := by
  by_cases z : H a = none
  · exact z
  · exact absurd h (e.2 a z)
theorem Ed.tr (h1 : Ed U H0 H1) (h2 : Ed U' H1 H2) (hv : ∀ a ∈ U', a ∈ U ∨ H0 a = none) : Ed U H0 H2 :=
  ⟨fun a o n e => h2.1 a o (fun z => (hv a z).elim n (fun q => by rw [q] at e; cases e)) (h1.1 a o n e), fun a h => h2.2 a (h1.2 a h)⟩
theorem Ed.new (hp : H p = none) : Ed [] H (upd H p o) := ⟨fun a u _ e => by rw [upd_ne (ne_of_none e hp)]; exact e, fun a h => by
  rw [upd_ne (fun z : a = p => h (by rw [z]; exact hp))]; exact h⟩
theorem Ed.put : Ed [p] H (upd H p o) := ⟨fun a u n e => by rw [upd_ne (fun z => n (by rw [z]; exact List.mem_singleton.mpr rfl))]; exact e, fun a h => by
  by_cases z : a = p
  · rw [z, upd_same]; exact fun z => nomatch z
  · rw [upd_ne z]; exact h⟩
theorem Ed.same (s : Same H H') : Ed [] H H' := ⟨fun a o _ e => s a o e, fun a h => by
  cases e : H a with
  | none => exact absurd e h
  | some o => rw [s a o e]; exact fun z => nomatch z⟩
theorem Ed.sx (s : Sx U H H') (h : ∀ a ∈ U, H' a ≠ none) : Ed U H H' := ⟨fun a o n e => s a o n e, fun a q => by
  by_cases z : a ∈ U
  · exact h a z
  · cases e : H a with
    | none => exact absurd e q
    | some o => rw [s a o z e]; exact fun z => nomatch z⟩
theorem Ed.same' (e : Ed [] H H') : Same H H' := fun a o q => e.1 a o (List.not_mem_nil) q
theorem Ed.sx' (e : Ed U H H') : Sx U H H' := fun a o n q => e.1 a o n q
theorem Ed.get (e : Ed U H H') (n : a ∉ U) (h : H a = some o) : H' a = some o := e.1 a o n h
/-- all of W lie in H -/
def Wl (W : List Addr) (H : Hp) : Prop := ∀ a ∈ W, H a ≠ none
theorem Wl.nil : Wl [] H := no0
theorem Wl.cons (h : H a = some o) (r : Wl W H) : Wl (a :: W) H := fun c hc => by
  rcases List.mem_cons.mp hc with rfl | hc
  · rw [h]; exact fun z => nomatch z
  · exact r c hc
theorem Wl.ed (w : Wl W H) (e : Ed U H H') : Wl W H' := fun a h => e.2 a (w a h)
theorem Wl.not (w : Wl W H) (h : H a = none) : a ∉ W := fun z => w a z h
end
/-! ### data of one's own: every part lies outside of W -/
mutual
/-- no dict in it -/
def noD : PyData → Bool
  | .list ds => noDs ds
  | .tuple ds => noDs ds
  | .dict _ => false
  | .none => true
  | .bool _ => true
  | .int _ => true
  | .str _ => true
def noDs : List PyData → Bool
  | [] => true
  | d :: r => noD d && noDs r
end
theorem noDs_all : ∀ {ds : List PyData}, (∀ d ∈ ds, noD d = true) → noDs ds = true
  | [], _ => by simp [noDs]
  | d :: r, h => by simp [noDs, h d (List.mem_cons_self ..), noDs_all fun e he => h e (List.mem_cons_of_mem _ he)]
/-- data that can be compared -/
def Sh (d : PyData) : Prop := SeqAt.shaped d = true ∧ noD d = true
theorem Sh.int (i : Int) : Sh (.int i) := ⟨by simp [SeqAt.shaped, PyData.canLay0, PyData.depth], by simp [noD]⟩
theorem Sh.bool (i : Bool) : Sh (.bool i) := ⟨by simp [SeqAt.shaped, PyData.canLay0, PyData.depth], by simp [noD]⟩
theorem Sh.none : Sh .none := ⟨by simp [SeqAt.shaped, PyData.canLay0, PyData.depth], by simp [noD]⟩
theorem Sh.str {s : Str} (h : PyData.strOk s = true) : Sh (.str s) := ⟨by simp [SeqAt.shaped, PyData.canLay0, PyData.depth, h], by simp [noD]⟩
/-- data that can lie in a list or tuple of what is compared: n deep at most -/
def Sd (n : Nat) (d : PyData) : Prop := d.canLay0 = true ∧ d.depth ≤ n ∧ noD d = true
theorem Sd.mono {n m : Nat} {d : PyData} (h : Sd n d) (l : n ≤ m) : Sd m d := ⟨h.1, Nat.le_trans h.2.1 l, h.2.2⟩
theorem Sd.all {n : Nat} : ∀ {ds : List PyData}, (∀ d ∈ ds, Sd n d) → PyData.canLayAll0 ds = true ∧ PyData.depthAll ds ≤ n ∧ noDs ds = true
  | [], _ => ⟨rfl, by simp [PyData.depthAll], by simp [noDs]⟩
  | d :: r, h => by
    obtain ⟨h1, h2, h3⟩ := h d (List.mem_cons_self ..)
    obtain ⟨k1, k2, k3⟩ := Sd.all fun e he => h e (List.mem_cons_of_mem _ he)
    exact ⟨by simp [PyData.canLayAll0, h1, k1], by simp only [PyData.depthAll]; omega, by simp [noDs, h3, k3]⟩
theorem Sd.list {n : Nat} {ds : List PyData} (h : ∀ d ∈ ds, Sd n d) : Sd (n + 1) (.list ds) := by
  obtain ⟨k1, k2, k3⟩ := Sd.all h
  exact ⟨by simp only [PyData.canLay0, k1], by simp only [PyData.depth]; omega, by simp only [noD, k3]⟩
theorem Sd.tuple {n : Nat} {ds : List PyData} (h : ∀ d ∈ ds, Sd n d) : Sd (n + 1) (.tuple ds) := by
  obtain ⟨k1, k2, k3⟩ := Sd.all h
  exact ⟨by simp only [PyData.canLay0, k1], by simp only [PyData.depth]; omega, by simp only [noD, k3]⟩
theorem Sd.sh {n : Nat} {d : PyData} (h : Sd n d) (l : n ≤ 60) : Sh d := ⟨by
  simp only [SeqAt.shaped, h.1, Bool.true_and]
  have := h.2.1
  exact decide_eq_true (by omega), h.2.2⟩
theorem Sd.int (i : Int) : Sd 0 (.int i) := ⟨by simp [PyData.canLay0], by simp [PyData.depth], by simp [noD]⟩
theorem Sd.bool (i : Bool) : Sd 0 (.bool i) := ⟨by simp [PyData.canLay0], by simp [PyData.depth], by simp [noD]⟩
theorem Sd.none : Sd 0 .none := ⟨by simp [PyData.canLay0], by simp [PyData.depth], by simp [noD]⟩
theorem Sd.str {s : Str} (h : PyData.strOk s = true) : Sd 0 (.str s) := ⟨by simp [PyData.canLay0, h], by simp [PyData.depth], by simp [noD]⟩
theorem Sd.map {α : Type} {n : Nat} {f : α → PyData} {xs : List α} (h : ∀ x ∈ xs, Sd n (f x)) : ∀ d ∈ xs.map f, Sd n d := fun d hd => by
  obtain ⟨x, hx, rfl⟩ := List.mem_map.mp hd
  exact h x hx
theorem Sd.nil {n : Nat} : ∀ d ∈ ([] : List PyData), Sd n d := fun d hd => absurd hd List.not_mem_nil
theorem Sd.cons {n : Nat} {d : PyData} {r : List PyData} (h : Sd n d) (k : ∀ d ∈ r, Sd n d) : ∀ e ∈ d :: r, Sd n e := fun e he => by
  rcases List.mem_cons.mp he with rfl | he
  · exact h
  · exact k e he
/-- an object of which the data tell the place alone -/
abbrev ob (a : Addr) : PyData := .dict [(.int (a : Nat), .none)]
mutual
inductive Df (W : List Addr) (H : Hp) : L2.V → PyData → Prop
  | non : Df W H .non .none
  | bl (b : Bool) : Df W H (.bl b) (.bool b)
  | int (i : Int) : Df W H (.int i) (.int i)
  | str (s : Str) : Df W H (.str s) (.str s)
  | obj {a : Addr} : a ∉ W → H a ≠ none → Df W H (.ref a) (ob a)
  | lst {a : Addr} {xs : List V} {ds : List PyData} : a ∉ W → H a = some (.lst xs) → DfAll W H xs ds → Df W H (.ref a) (.list ds)
  | tup {a : Addr} {xs : List V} {ds : List PyData} : a ∉ W → H a = some (.tup xs) → DfAll W H xs ds → Df W H (.ref a) (.tuple ds)
inductive DfAll (W : List Addr) (H : Hp) : List L2.V → List PyData → Prop
  | nil : DfAll W H [] []
  | cons {v : V} {d : PyData} {vs : List V} {ds : List PyData} : Df W H v d → DfAll W H vs ds → DfAll W H (v :: vs) (d :: ds)
end
section
variable {U W W' : List Addr} {H H' : Hp} {v : V} {d : PyData} {vs : List L2.V} {ds : List PyData} {K : PySem.W.Frag} {p a : Addr}
mutual
theorem Df.ed (e : Ed U H H') (hv : ∀ a ∈ U, a ∈ W) : ∀ {v : L2.V} {d : PyData}, Df W H v d → Df W H' v d
  | _, _, .non => .non
  | _, _, .bl b => .bl b
  | _, _, .int b => .int b
  | _, _, .str b => .str b
  | _, _, .obj n h => .obj n (e.2 _ h)
  | _, _, .lst n h r => .lst n (e.1 _ _ (fun z => n (hv _ z)) h) (DfAll.ed e hv r)
  | _, _, .tup n h r => .tup n (e.1 _ _ (fun z => n (hv _ z)) h) (DfAll.ed e hv r)
theorem DfAll.ed (e : Ed U H H') (hv : ∀ a ∈ U, a ∈ W) : ∀ {vs : List L2.V} {ds : List PyData}, DfAll W H vs ds → DfAll W H' vs ds
  | _, _, .nil => .nil
  | _, _, .cons h r => .cons (Df.ed e hv h) (DfAll.ed e hv r)
end
mutual
theorem Df.weak (hv : ∀ a ∈ W', a ∈ W) : ∀ {v : L2.V} {d : PyData}, Df W H v d → Df W' H v d
  | _, _, .non => .non
  | _, _, .bl b => .bl b
  | _, _, .int b => .int b
  | _, _, .str b => .str b
  | _, _, .obj n h => .obj (fun z => n (hv _ z)) h
  | _, _, .lst n h r => .lst (fun z => n (hv _ z)) h (DfAll.weak hv r)
  | _, _, .tup n h r => .tup (fun z => n (hv _ z)) h (DfAll.weak hv r)
theorem DfAll.weak (hv : ∀ a ∈ W', a ∈ W) : ∀ {vs : List L2.V} {ds : List PyData}, DfAll W H vs ds → DfAll W' H vs ds
  | _, _, .nil => .nil
  | _, _, .cons h r => .cons (Df.weak hv h) (DfAll.weak hv r)
end
mutual
theorem Df.more (hp : H p = none) : ∀ {v : L2.V} {d : PyData}, Df W H v d → Df (p :: W) H v d
  | _, _, .non => .non
  | _, _, .bl b => .bl b
  | _, _, .int b => .int b
  | _, _, .str b => .str b
  | _, _, .obj n h => .obj (fun z => (List.mem_cons.mp z).elim (fun q => h (by rw [q]; exact hp)) n) h
  | _, _, .lst n h r => .lst (fun z => (List.mem_cons.mp z).elim (ne_of_none h hp) n) h (DfAll.more hp r)
  | _, _, .tup n h r => .tup (fun z => (List.mem_cons.mp z).elim (ne_of_none h hp) n) h (DfAll.more hp r)
theorem DfAll.more (hp : H p = none) : ∀ {vs : List L2.V} {ds : List PyData}, DfAll W H vs ds → DfAll (p :: W) H vs ds
  | _, _, .nil => .nil
  | _, _, .cons h r => .cons (Df.more hp h) (DfAll.more hp r)
end
mutual
theorem Df.dp : ∀ {v : L2.V} {d : PyData}, Df W H v d → noD d = true → Dp K H v d
  | _, _, .non, _ => .non
  | _, _, .bl b, _ => .bl b
  | _, _, .int b, _ => .int b
  | _, _, .str b, _ => .str b
  | _, _, .obj _ _, h => by simp [noD] at h
  | _, _, .lst _ h r, q => .lst (SqL.of h) (DfAll.dp r (by simpa [noD] using q))
  | _, _, .tup _ h r, q => .tup (SqT.of h) (DfAll.dp r (by simpa [noD] using q))
theorem DfAll.dp : ∀ {vs : List L2.V} {ds : List PyData}, DfAll W H vs ds → noDs ds = true → DpAll K H vs ds
  | _, _, .nil, _ => .nil
  | _, _, .cons h r, q => .cons (Df.dp h (by simp [noDs] at q; exact q.1)) (DfAll.dp r (by simp [noDs] at q; exact q.2))
end
theorem DfAll.length : ∀ {vs : List L2.V} {ds : List PyData}, DfAll W H vs ds → vs.length = ds.length
  | _, _, .nil => rfl
  | _, _, .cons _ r => by rw [List.length_cons, List.length_cons, DfAll.length r]
theorem DfAll.at : ∀ {vs : List L2.V} {ds : List PyData} {i : Nat} {d : PyData}, DfAll W H vs ds → ds[i]? = some d → ∃ v, vs[i]? = some v ∧ Df W H v d
  | _, _, _, _, .nil, e => by simp at e
  | _, _, 0, _, .cons h _, e => by simp at e; subst e; exact ⟨_, rfl, h⟩
  | _, _, i + 1, _, .cons _ r, e => by
    obtain ⟨v, h1, h2⟩ := DfAll.at r (i := i) (by simpa using e)
    exact ⟨v, by simpa using h1, h2⟩
theorem DfAll.at' : ∀ {vs : List L2.V} {ds : List PyData} {i : Nat} {v : L2.V}, DfAll W H vs ds → vs[i]? = some v → ∃ d, ds[i]? = some d ∧ Df W H v d
  | _, _, _, _, .nil, e => by simp at e
  | _, _, 0, _, .cons h _, e => by simp at e; subst e; exact ⟨_, rfl, h⟩
  | _, _, i + 1, _, .cons _ r, e => by
    obtain ⟨v, h1, h2⟩ := DfAll.at' r (i := i) (by simpa using e)
    exact ⟨v, by simpa using h1, h2⟩
theorem DfAll.app : ∀ {vs ws : List L2.V} {ds es : List PyData}, DfAll W H vs ds → DfAll W H ws es → DfAll W H (vs ++ ws) (ds ++ es)
  | _, _, _, _, .nil, h => h
  | _, _, _, _, .cons h r, q => .cons h (DfAll.app r q)
theorem DfAll.snoc {vs : List L2.V} {ds : List PyData} (h : DfAll W H vs ds) (q : Df W H v d) : DfAll W H (vs ++ [v]) (ds ++ [d]) := h.app (.cons q .nil)
theorem DfAll.drop : ∀ {vs : List L2.V} {ds : List PyData} (n : Nat), DfAll W H vs ds → DfAll W H (vs.drop n) (ds.drop n)
  | _, _, 0, h => h
  | _, _, _ + 1, .nil => .nil
  | _, _, n + 1, .cons _ r => DfAll.drop n r
theorem DfAll.take : ∀ {vs : List L2.V} {ds : List PyData} (n : Nat), DfAll W H vs ds → DfAll W H (vs.take n) (ds.take n)
  | _, _, 0, _ => .nil
  | _, _, _ + 1, .nil => .nil
  | _, _, n + 1, .cons h r => .cons h (DfAll.take n r)
theorem DfAll.strs (xs : List Str) : DfAll W H (xs.map L2.V.str) (xs.map PyData.str) := by
  induction xs with
  | nil => exact .nil
  | cons x r ih => exact .cons (.str x) ih
theorem DfAll.ints (xs : List Int) : DfAll W H (xs.map L2.V.int) (xs.map PyData.int) := by
  induction xs with
  | nil => exact .nil
  | cons x r ih => exact .cons (.int x) ih
theorem DfAll.bools (xs : List Bool) : DfAll W H (xs.map L2.V.bl) (xs.map PyData.bool) := by
  induction xs with
  | nil => exact .nil
  | cons x r ih => exact .cons (.bl x) ih
theorem DfAll.strs' : ∀ {xs : List Str} {vs : List L2.V}, DfAll W H vs (xs.map PyData.str) → vs = xs.map L2.V.str
  | [], _, .nil => rfl
  | x :: r, _, .cons (.str _) h => by rw [DfAll.strs' h]; rfl
theorem DfAll.ints' : ∀ {xs : List Int} {vs : List L2.V}, DfAll W H vs (xs.map PyData.int) → vs = xs.map L2.V.int
  | [], _, .nil => rfl
  | x :: r, _, .cons (.int _) h => by rw [DfAll.ints' h]; rfl
theorem DfAll.bools' : ∀ {xs : List Bool} {vs : List L2.V}, DfAll W H vs (xs.map PyData.bool) → vs = xs.map L2.V.bl
  | [], _, .nil => rfl
  | x :: r, _, .cons (.bl _) h => by rw [DfAll.bools' h]; rfl
theorem Df.strL {xs : List Str} (h : Df W H (.ref p) (.list (xs.map PyData.str))) : p ∉ W ∧ H p = some (.lst (xs.map L2.V.str)) := by
  cases h with
  | lst n h r => rw [DfAll.strs' r] at h; exact ⟨n, h⟩
theorem Df.intL {xs : List Int} (h : Df W H (.ref p) (.list (xs.map PyData.int))) : p ∉ W ∧ H p = some (.lst (xs.map L2.V.int)) := by
  cases h with
  | lst n h r => rw [DfAll.ints' r] at h; exact ⟨n, h⟩
theorem Df.boolL {xs : List Bool} (h : Df W H (.ref p) (.list (xs.map PyData.bool))) : p ∉ W ∧ H p = some (.lst (xs.map L2.V.bl)) := by
  cases h with
  | lst n h r => rw [DfAll.bools' r] at h; exact ⟨n, h⟩
theorem Df.ofStrs {xs : List Str} (n : p ∉ W) (h : H p = some (.lst (xs.map L2.V.str))) : Df W H (.ref p) (.list (xs.map PyData.str)) := .lst n h (.strs xs)
theorem Df.ofInts {xs : List Int} (n : p ∉ W) (h : H p = some (.lst (xs.map L2.V.int))) : Df W H (.ref p) (.list (xs.map PyData.int)) := .lst n h (.ints xs)
theorem Df.cells (h : Df W H (.ref p) (.list ds)) : ∃ xs, p ∉ W ∧ H p = some (.lst xs) ∧ DfAll W H xs ds := by
  cases h with
  | lst n h r => exact ⟨_, n, h, r⟩
theorem Df.cellsT (h : Df W H (.ref p) (.tuple ds)) : ∃ xs, p ∉ W ∧ H p = some (.tup xs) ∧ DfAll W H xs ds := by
  cases h with
  | tup n h r => exact ⟨_, n, h, r⟩
theorem Df.isRefL (h : Df W H v (.list ds)) : ∃ p, v = .ref p := by
  cases h with
  | lst n h r => exact ⟨_, rfl⟩
theorem Df.isRefT (h : Df W H v (.tuple ds)) : ∃ p, v = .ref p := by
  cases h with
  | tup n h r => exact ⟨_, rfl⟩
theorem Df.nin (h : Df W H (.ref p) d) : p ∉ W := by
  cases h with
  | obj n _ => exact n
  | lst n _ _ => exact n
  | tup n _ _ => exact n
theorem Df.alive (h : Df W H (.ref p) d) : H p ≠ none := by
  cases h with
  | obj _ h => exact h
  | lst _ h _ => rw [h]; exact fun z => nomatch z
  | tup _ h _ => rw [h]; exact fun z => nomatch z
theorem Df.isObj {a : Addr} (h : Df W H v (ob a)) : v = .ref a := by
  generalize e : ob a = d at h
  cases h with
  | obj n _ => simp [ob] at e; rw [Int.ofNat.inj e]
  | _ => simp [ob] at e
theorem Df.isStr {s : Str} (h : Df W H v (.str s)) : v = .str s := by cases h; rfl
theorem Df.isInt {s : Int} (h : Df W H v (.int s)) : v = .int s := by cases h; rfl
theorem Df.isBool {s : Bool} (h : Df W H v (.bool s)) : v = .bl s := by cases h; rfl
/-- a list that is being built at p -/
def Bld (W : List Addr) (H : Hp) (p : Addr) (ds : List PyData) : Prop := p ∉ W ∧ ∃ xs, H p = some (.lst xs) ∧ DfAll (p :: W) H xs ds
theorem Bld.done (h : Bld W H p ds) : Df W H (.ref p) (.list ds) := by
  obtain ⟨n, xs, h, r⟩ := h
  exact .lst n h (r.weak fun a z => List.mem_cons_of_mem _ z)
theorem Bld.ed (h : Bld W H p ds) (e : Ed U H H') (hv : ∀ a ∈ U, a ∈ W) : Bld W H' p ds := by
  obtain ⟨n, xs, h, r⟩ := h
  exact ⟨n, xs, e.1 _ _ (fun z => n (hv _ z)) h, r.ed e fun a z => List.mem_cons_of_mem _ (hv a z)⟩
theorem Bld.alive (h : Bld W H p ds) : H p ≠ none := by
  obtain ⟨n, xs, h, r⟩ := h
  rw [h]; exact fun z => nomatch z
end
/-! ### steps -/
section
variable {U W W' : List Addr} {H H' : Hp} {Q : VK} {v x y : L2.V} {d e : PyData} {vs : List L2.V} {ds es : List PyData} {K : PySem.W.Frag} {p q : Addr} {i : Int}
/-- a list display, a tuple display: the heap behind it by an edge -/
theorem g_dl (h : DfAll W H vs ds) (w : Wl W H) (z : vs.length ≤ sizeLine) (k : ∀ p H', H p = none → Ed [] H H' → Df W H' (.ref p) (.list ds) → Q (.ref p) H') : vs.length ≤ sizeLine ∧ ∀ p, H p = none → Q (.ref p) (upd H p (.lst vs)) :=
  ⟨z, fun p hp => k p _ hp (Ed.new hp) (.lst (w.not hp) upd_same (h.ed (Ed.new hp) no0))⟩
theorem g_dt (h : DfAll W H vs ds) (w : Wl W H) (z : vs.length ≤ sizeLine) (k : ∀ p H', H p = none → Ed [] H H' → Df W H' (.ref p) (.tuple ds) → Q (.ref p) H') : vs.length ≤ sizeLine ∧ ∀ p, H p = none → Q (.ref p) (upd H p (.tup vs)) :=
  ⟨z, fun p hp => k p _ hp (Ed.new hp) (.tup (w.not hp) upd_same (h.ed (Ed.new hp) no0))⟩
/-- [] that things are put into -/
theorem g_d0 (w : Wl W H) (k : ∀ p H', H p = none → Ed [] H H' → Bld W H' p [] → Q (.ref p) H') : ([] : List L2.V).length ≤ sizeLine ∧ ∀ p, H p = none → Q (.ref p) (upd H p (.lst [])) :=
  ⟨Nat.zero_le _, fun p hp => k p _ hp (Ed.new hp) ⟨w.not hp, [], upd_same, .nil⟩⟩
theorem g_dn (h : DfAll W H vs ds) (w : Wl W H) (k : ∀ p H', H p = none → Ed [] H H' → Df W H' (.ref p) (.list ds) → Q (.ref p) H') : ∀ p, H p = none → Q (.ref p) (upd H p (.lst vs)) :=
  fun p hp => k p _ hp (Ed.new hp) (.lst (w.not hp) upd_same (h.ed (Ed.new hp) no0))
theorem g_dns {ts : List Str} (w : Wl W H) (k : ∀ p H', H p = none → Ed [] H H' → Df W H' (.ref p) (.list (ts.map PyData.str)) → Q (.ref p) H') : ∀ p, H p = none → Q (.ref p) (upd H p (.lst (ts.map L2.V.str))) := g_dn (.strs ts) w k
theorem g_bap (h : Bld W H p ds) (hy : Df (p :: W) H y d) (z : ds.length < sizeLine) (k : ∀ H', Ed [p] H H' → Bld W H' p (ds ++ [d]) → Q .non H') : rAppend (.ref p) [y] H Q := by
  obtain ⟨n, xs, h, r⟩ := h
  refine ⟨p, xs, y, rfl, rfl, h, by rw [r.length]; exact z, k _ Ed.put ⟨n, _, upd_same, ?_⟩⟩
  exact (r.snoc hy).ed Ed.put fun a z => by rw [List.mem_singleton.mp z]; exact List.mem_cons_self ..
theorem at_df {xs : List L2.V} (r : DfAll W H xs ds) (z : atI ds i = some d) : ∃ v, atI xs i = some v ∧ Df W H v d := by
  unfold atI at z ⊢
  rw [r.length]
  cases e : ixN ds.length i with
  | none => rw [e] at z; cases z
  | some j =>
    rw [e] at z
    exact r.at z
theorem g_ixd (h : Df W H (.ref p) (.list ds)) (z : atI ds i = some d) (k : ∀ v, Df W H v d → Q v H) : dIx K (.ref p) (.int i) H Q := by
  obtain ⟨xs, n, hp, r⟩ := h.cells
  obtain ⟨v, h1, h2⟩ := at_df r z
  exact g_ix_l (Or.inl (SqL.of hp)) h1 (k v h2)
theorem g_ixt (h : Df W H (.ref p) (.tuple ds)) (z : atI ds i = some d) (k : ∀ v, Df W H v d → Q v H) : dIx K (.ref p) (.int i) H Q := by
  obtain ⟨xs, n, hp, r⟩ := h.cellsT
  obtain ⟨v, h1, h2⟩ := at_df r z
  exact g_ix_l (Or.inr (SqT.of hp)) h1 (k v h2)
theorem g_lend (h : Df W H (.ref p) (.list ds)) (k : Q (.int ds.length) H) : dLen K [.ref p] H Q := by
  obtain ⟨xs, n, hp, r⟩ := h.cells
  exact g_len_l (Or.inl (SqL.of hp)) (by rw [r.length]; exact k)
theorem g_lent (h : Df W H (.ref p) (.tuple ds)) (k : Q (.int ds.length) H) : dLen K [.ref p] H Q := by
  obtain ⟨xs, n, hp, r⟩ := h.cellsT
  exact g_len_l (Or.inr (SqT.of hp)) (by rw [r.length]; exact k)
theorem g_eqd (h1 : Df W H x d) (h2 : Df W' H y e) (s1 : Sh d) (s2 : Sh e) (k : Q (.bl (PyData.eqv d e)) H) : dEq K x y H Q := .inr ⟨d, e, h1.dp s1.2, h2.dp s2.2, s1.1, s2.1, k⟩
theorem g_ned (h1 : Df W H x d) (h2 : Df W' H y e) (s1 : Sh d) (s2 : Sh e) (k : Q (.bl (!PyData.eqv d e)) H) : dNe K x y H Q := .inr ⟨d, e, h1.dp s1.2, h2.dp s2.2, s1.1, s2.1, k⟩
theorem g_addd (h1 : Df W H (.ref p) (.list ds)) (h2 : Df W H (.ref q) (.list es)) (w : Wl W H) (z : ds.length + es.length ≤ sizeLine) (k : ∀ p H', H p = none → Ed [] H H' → Df W H' (.ref p) (.list (ds ++ es)) → Q (.ref p) H') : dAdd (.ref p) (.ref q) H Q := by
  obtain ⟨xs, n, hp, r⟩ := h1.cells
  obtain ⟨ys, m, hq, t⟩ := h2.cells
  exact ⟨xs, ys, hp, hq, by rw [r.length, t.length]; exact z, g_dn (r.app t) w k⟩
/-- list(p) -/
theorem g_listd (h : Df W H (.ref p) (.list ds)) (w : Wl W H) (k : ∀ p H', H p = none → Ed [] H H' → Df W H' (.ref p) (.list ds) → Q (.ref p) H') : dList K [.ref p] H Q := by
  obtain ⟨xs, n, hp, r⟩ := h.cells
  exact g_listL (Or.inl (SqL.of hp)) (g_dn r w k)
theorem cutV_len {α : Type} {xs : List L2.V} {ys : List α} (e : xs.length = ys.length) : True := trivial
def cutD (xs : List PyData) (lo hi : Option Int) : List PyData := (xs.drop (HT.sIx xs.length 0 lo)).take (HT.sIx xs.length xs.length hi - HT.sIx xs.length 0 lo)
theorem g_sld {lo hi : Option Int} (h : Df W H (.ref p) (.list ds)) (w : Wl W H) (k : ∀ p H', H p = none → Ed [] H H' → Df W H' (.ref p) (.list (cutD ds lo hi)) → Q (.ref p) H') : dSl K (.ref p) lo hi H Q := by
  obtain ⟨xs, n, hp, r⟩ := h.cells
  refine g_slL (SqL.of hp) (g_dn (ds := cutD ds lo hi) ?_ w k)
  unfold cutV cutD
  rw [r.length]
  exact (r.drop _).take _
theorem g_inds {t : Str} {ns : List Str} (h : Df W H (.ref p) (.list (ns.map PyData.str))) (k : Q (.bl (decide (t ∈ ns))) H) : dIn K (.str t) (.ref p) H Q := g_inLs (Or.inl (SqL.of h.strL.2)) k
theorem g_ninds {t : Str} {ns : List Str} (h : Df W H (.ref p) (.list (ns.map PyData.str))) (k : Q (.bl (!decide (t ∈ ns))) H) : dNotIn K (.str t) (.ref p) H Q := g_ninLs (Or.inl (SqL.of h.strL.2)) k
theorem g_joind {a : Str} {ys : List Str} (h : Df W H (.ref p) (.list (ys.map PyData.str))) (z2 : (ys.map (·.length)).sum + ys.length * a.length ≤ 16777216) (k : Q (.str (Txt.join a ys)) H) : dJoin K (.str a) [.ref p] H Q := g_join (Or.inl (SqL.of h.strL.2)) z2 k
/-- a tuple unpacked -/
theorem g_gtupd {n : Nat} {t : TGs} {σ : L2.St} {QS : L2.St → Hp → Prop} (h : Df W H (.ref p) (.tuple ds)) (z : ds.length = n) (k : ∀ xs, DfAll W H xs ds → t xs σ H QS) : gTL K n t (.ref p) σ H QS := by
  obtain ⟨xs, n, hp, r⟩ := h.cellsT
  exact g_gtup (SqT.of hp) (by rw [r.length]; exact z) (k xs r)
theorem g_gtupld {n : Nat} {t : TGs} {σ : L2.St} {QS : L2.St → Hp → Prop} (h : Df W H (.ref p) (.list ds)) (z : ds.length = n) (k : ∀ xs, DfAll W H xs ds → t xs σ H QS) : gTL K n t (.ref p) σ H QS := by
  obtain ⟨xs, n, hp, r⟩ := h.cells
  exact g_gtupL (SqL.of hp) (by rw [r.length]; exact z) (k xs r)
theorem g_iLd {Z : Addr → Prop} (z : Df W H (.ref p) (.list ds)) (h : Z p) : ∃ a, L2.V.ref p = .ref a ∧ (∃ xs, SqL K H a xs) ∧ Z a := by
  obtain ⟨xs, n, hp, r⟩ := z.cells
  exact ⟨p, rfl, ⟨xs, SqL.of hp⟩, h⟩
theorem g_iEd {Z : Addr → Prop} (z : Df W H (.ref p) (.list ds)) (h : Z p) : ∃ a xs, [L2.V.ref p] = [.ref a] ∧ SqL K H a xs ∧ Z a := by
  obtain ⟨xs, n, hp, r⟩ := z.cells
  exact ⟨p, xs, rfl, SqL.of hp, h⟩
theorem g_isid {t u : Value} {c : L2.V} {b : Bool} (h1 : ClsV c u) (h2 : TyX K H x t) (h3 : PySem.W.kitOne K t u = some b) (h : Q (.bl b) H) : dIsi K [x, c] H Q := g_isi h1 h2 h3 h
end
section
variable {W : List Addr} {H H' : Hp} {p : Addr} {vs : List L2.V} {ds : List PyData} {ts : List Str}
theorem new_l (h : upd H p (.lst vs) = H') (hp : H p = none) (r : DfAll W H vs ds) (w : Wl W H) : Ed [] H H' ∧ Df W H' (.ref p) (.list ds) := by
  subst h
  exact ⟨Ed.new hp, .lst (w.not hp) upd_same (r.ed (Ed.new hp) no0)⟩
theorem new_t (h : upd H p (.tup vs) = H') (hp : H p = none) (r : DfAll W H vs ds) (w : Wl W H) : Ed [] H H' ∧ Df W H' (.ref p) (.tuple ds) := by
  subst h
  exact ⟨Ed.new hp, .tup (w.not hp) upd_same (r.ed (Ed.new hp) no0)⟩
theorem new_b (h : upd H p (.lst []) = H') (hp : H p = none) (w : Wl W H) : Ed [] H H' ∧ Bld W H' p [] := by
  subst h
  exact ⟨Ed.new hp, w.not hp, [], upd_same, .nil⟩
theorem new_s (h : upd H p (.lst (ts.map L2.V.str)) = H') (hp : H p = none) (w : Wl W H) : Ed [] H H' ∧ Df W H' (.ref p) (.list (ts.map PyData.str)) := new_l h hp (.strs ts) w
end
/-! ### loops over data -/
section
variable {U W : List Addr} {H H' : Hp} {σ : L2.St} {ds : List PyData} {K : PySem.W.Frag} {p : Addr} {g : TG} {tb : TS} {nx : L2.St → Hp → Prop} {rt : VK} {bk ct : L2.St → Hp → Prop}
theorem lp_df (h : Df W H (.ref p) (.list ds)) (Pv : Nat → L2.St → Hp → Prop) (h0 : Pv 0 σ H) (hk : ∀ i σ' H', i ≤ ds.length → Pv i σ' H' → Ed W H H')
    (hs : ∀ i x d σ' H', ds[i]? = some d → Pv i σ' H' → Df W H' x d → g x σ' H' fun σ2 H2 => tb ⟨Pv (i + 1), rt, nx, Pv (i + 1)⟩ σ2 H2) (hn : ∀ σ' H', Pv ds.length σ' H' → nx σ' H') : Loop (Itl K p) g tb ⟨nx, rt, bk, ct⟩ σ H := by
  obtain ⟨xs, n, hp, r⟩ := h.cells
  refine lp_it (walk_list (xs := xs)) Pv h0 (fun i σ' H' hi hP => SqL.of ((hk i σ' H' (by rw [← r.length]; exact hi) hP).1 _ _ n hp)) ?_ (by rw [r.length]; exact hn)
  rintro i x σ' H' H2 hi hP ⟨rfl, e⟩
  have ee := hk i σ' _ (by rw [← r.length]; omega) hP
  obtain ⟨d, e1, e2⟩ := (r.ed ee fun _ z => z).at' e
  exact hs i x d σ' _ e1 hP e2
theorem lp_en (h : Df W H (.ref p) (.list ds)) (Pv : Nat → L2.St → Hp → Prop) (h0 : Pv 0 σ H) (hk : ∀ i σ' H', i ≤ ds.length → Pv i σ' H' → Ed W H H') (hw : Wl W H)
    (hs : ∀ i x t d σ' H' H2, ds[i]? = some d → Pv i σ' H' → Ed [] H' H2 → SqT K H2 t [.int (i : Nat), x] → Df W H2 x d → g (.ref t) σ' H2 fun σ2 H2 => tb ⟨Pv (i + 1), rt, nx, Pv (i + 1)⟩ σ2 H2) (hn : ∀ σ' H', Pv ds.length σ' H' → nx σ' H') : Loop (Ite K p) g tb ⟨nx, rt, bk, ct⟩ σ H := by
  obtain ⟨xs, n, hp, r⟩ := h.cells
  refine lp_it (walk_enum (xs := xs)) Pv h0 (fun i σ' H' hi hP => SqL.of ((hk i σ' H' (by rw [← r.length]; exact hi) hP).1 _ _ n hp)) ?_ (by rw [r.length]; exact hn)
  rintro i x σ' H' H2 hi hP ⟨t, x1, y1, rfl, ht, rfl, e1, e2⟩
  cases e1
  have ee := hk i σ' H' (by rw [← r.length]; omega) hP
  obtain ⟨d, e3, e4⟩ := (r.ed ee fun _ z => z).at' e2
  exact hs i _ t d σ' H' _ e3 hP (Ed.new ht) (SqT.of upd_same) (e4.ed (Ed.new ht) no0)
variable {tt : TT} {te : TE} {ws : List Nat} {D : Addr} {Qd : Hp → Prop}
/-- a list comprehension: an invariant over what is made so far; J1 of the heap -/
theorem lc_gen {σw : L2.St} (hσ : wipe σ ws = σw) {J : It} {n : Nat} {G : Hp → Prop} {Y : Nat → Hp → L2.V → Hp → Prop} (w : Walk J n G Y) (hn : n < sizeLine) (hD : H D = none) (hw : Wl W H) (hV : ∀ a ∈ U, a ∈ W) (I : Nat → List PyData → Prop) (J1 : Hp → Prop) (hJ : ∀ H' H'', J1 H' → Ed [D] H' H'' → J1 H'') (hJ0 : J1 H) (hI0 : I 0 [])
    (hG : ∀ H', Ed U H H' → G H')
    (hs : ∀ i x acc H' H2 (R : VK) (N : Hp → Prop), i < n → I i acc → J1 H' → Ed U H H' → Wl (D :: W) H' → Y i H' x H2 → (∀ y H4 dy, Ed U H' H4 → Df (D :: W) H4 y dy → J1 H4 → I (i + 1) (acc ++ [dy]) → R y H4) → (∀ H3, Ed U H' H3 → J1 H3 → I (i + 1) acc → N H3) →
      g x σw H2 fun σ2 H2 => wipe σ2 ws = σw ∧ tt σ2 H2 fun b H3 => if b = true then te σ2 H3 R else N H3)
    (hd : ∀ acc H', I n acc → J1 H' → Ed U H H' → Df W H' (.ref D) (.list acc) → acc.length ≤ n → Qd H') : LoopC J g tt te ws σ H D Qd := by
  subst hσ
  have nD : D ∉ U := fun z => hw D (hV D z) hD
  have nDW : D ∉ W := fun z => hw D z hD
  have e0 : ∀ {H1 H2 : Hp} {T : List Addr}, Ed U H H1 → Ed T H1 H2 → (∀ a ∈ T, a ∈ U ∨ a = D) → Ed U H H2 := fun h1 h2 hu => Ed.tr h1 h2 fun a ha => (hu a ha).elim .inl fun z => .inr (z ▸ hD)
  refine lc_by w (fun i H' => ∃ acc, Ed U H H' ∧ J1 H' ∧ I i acc ∧ Bld W H' D acc ∧ acc.length ≤ i) ⟨[], e0 Ed.refl (Ed.new hD) (no0), hJ _ _ hJ0 Ed.put, hI0, ⟨nDW, [], upd_same, .nil⟩, Nat.le_refl _⟩ (fun i H' _ ⟨acc, h1, _⟩ => hG _ h1) ?_ ?_
  · rintro i x H1 H2 hi ⟨acc, h1, h2, h3, h4, h5⟩ hy
    have hD1 : H1 D ≠ none := h4.alive
    refine hs i x acc H1 H2 _ _ hi h3 h2 h1 (fun a ha => ?_) hy ?_ ?_
    · rcases List.mem_cons.mp ha with rfl | ha
      · exact hD1
      · exact hw.ed h1 a ha
    · intro y H4 dy z4 z5 z6 z7
      obtain ⟨m, xs, z8, z9⟩ := h4.ed z4 hV
      exact ⟨xs, z8, by rw [z9.length]; omega, acc ++ [dy], e0 (e0 h1 z4 fun a h => .inl h) Ed.put (fun a h => .inr (List.mem_singleton.mp h)), hJ _ _ z6 Ed.put, z7, ⟨nDW, _, upd_same, (z9.snoc z5).ed Ed.put fun a z => by rw [List.mem_singleton.mp z]; exact List.mem_cons_self ..⟩, by rw [List.length_append, List.length_singleton]; omega⟩
    · intro H3 z3 z4 z5
      exact ⟨acc, e0 h1 z3 fun a h => .inl h, z4, z5, h4.ed z3 hV, by omega⟩
  · rintro H1 ⟨acc, h1, h2, h3, h4, h5⟩
    exact hd acc H1 h3 h2 h1 h4.done h5
/-- over a list of data -/
theorem lc_df {σw : L2.St} (hσ : wipe σ ws = σw) (h : Df W H (.ref p) (.list ds)) (hn : ds.length < sizeLine) (hD : H D = none) (hw : Wl W H) (hV : ∀ a ∈ U, a ∈ W) (I : Nat → List PyData → Prop) (J1 : Hp → Prop) (hJ : ∀ H' H'', J1 H' → Ed [D] H' H'' → J1 H'') (hJ0 : J1 H) (hI0 : I 0 [])
    (hs : ∀ i x d acc H' (R : VK) (N : Hp → Prop), ds[i]? = some d → I i acc → J1 H' → Ed U H H' → Wl (D :: W) H' → Df (D :: W) H' x d → (∀ y H4 dy, Ed U H' H4 → Df (D :: W) H4 y dy → J1 H4 → I (i + 1) (acc ++ [dy]) → R y H4) → (∀ H3, Ed U H' H3 → J1 H3 → I (i + 1) acc → N H3) →
      g x σw H' fun σ2 H2 => wipe σ2 ws = σw ∧ tt σ2 H2 fun b H3 => if b = true then te σ2 H3 R else N H3)
    (hd : ∀ acc H', I ds.length acc → J1 H' → Ed U H H' → Df W H' (.ref D) (.list acc) → acc.length ≤ ds.length → Qd H') : LoopC (Itl K p) g tt te ws σ H D Qd := by
  have h' := h.more hD
  obtain ⟨xs, n, hp, r⟩ := h'.cells
  have hVW : ∀ a ∈ U, a ∈ D :: W := fun a z => List.mem_cons_of_mem _ (hV a z)
  have l := r.length
  refine lc_gen hσ (walk_list (xs := xs)) (by rw [l]; exact hn) hD hw hV I J1 hJ hJ0 hI0 (fun H' e => SqL.of (e.1 _ _ (fun z => n (hVW _ z)) hp)) ?_ (by rw [l]; exact hd)
  rintro i x acc H1 H2 R N hi h1 h2 h3 h4 ⟨rfl, e⟩ h5 h6
  obtain ⟨d, e1, e2⟩ := (r.ed h3 hVW).at' e
  exact hs i x d acc _ R N e1 h1 h2 h3 h4 e2 h5 h6
/-- over range(n) -/
theorem lc_rg {σw : L2.St} (hσ : wipe σ ws = σw) {n : Nat} {lo : Int} (hn : n < sizeLine) (hD : H D = none) (hw : Wl W H) (hV : ∀ a ∈ U, a ∈ W) (I : Nat → List PyData → Prop) (J1 : Hp → Prop) (hJ : ∀ H' H'', J1 H' → Ed [D] H' H'' → J1 H'') (hJ0 : J1 H) (hI0 : I 0 [])
    (hs : ∀ i acc H' (R : VK) (N : Hp → Prop), i < n → I i acc → J1 H' → Ed U H H' → Wl (D :: W) H' → (∀ y H4 dy, Ed U H' H4 → Df (D :: W) H4 y dy → J1 H4 → I (i + 1) (acc ++ [dy]) → R y H4) → (∀ H3, Ed U H' H3 → J1 H3 → I (i + 1) acc → N H3) →
      g (.int (lo + (i : Nat))) σw H' fun σ2 H2 => wipe σ2 ws = σw ∧ tt σ2 H2 fun b H3 => if b = true then te σ2 H3 R else N H3)
    (hd : ∀ acc H', I n acc → J1 H' → Ed U H H' → Df W H' (.ref D) (.list acc) → acc.length ≤ n → Qd H') : LoopC (Itr lo n) g tt te ws σ H D Qd := by
  refine lc_gen hσ walk_range hn hD hw hV I J1 hJ hJ0 hI0 (fun _ _ => trivial) ?_ hd
  rintro i x acc H1 H2 R N hi h1 h2 h3 h4 ⟨rfl, rfl⟩ h5 h6
  exact hs i acc _ R N hi h1 h2 h3 h4 h5 h6
/-- over enumerate(list) -/
theorem lc_en {σw : L2.St} (hσ : wipe σ ws = σw) (h : Df W H (.ref p) (.list ds)) (hn : ds.length < sizeLine) (hD : H D = none) (hw : Wl W H) (hV : ∀ a ∈ U, a ∈ W) (I : Nat → List PyData → Prop) (J1 : Hp → Prop) (hJ : ∀ H' H'', J1 H' → Ed [D] H' H'' → J1 H'') (hJn : ∀ H' H'', J1 H' → Ed [] H' H'' → J1 H'') (hJ0 : J1 H) (hI0 : I 0 [])
    (hs : ∀ i x t d acc H' (R : VK) (N : Hp → Prop), ds[i]? = some d → I i acc → J1 H' → Ed U H H' → Wl (D :: W) H' → SqT K H' t [.int (i : Nat), x] → Df (D :: W) H' x d → (∀ y H4 dy, Ed U H' H4 → Df (D :: W) H4 y dy → J1 H4 → I (i + 1) (acc ++ [dy]) → R y H4) → (∀ H3, Ed U H' H3 → J1 H3 → I (i + 1) acc → N H3) →
      g (.ref t) σw H' fun σ2 H2 => wipe σ2 ws = σw ∧ tt σ2 H2 fun b H3 => if b = true then te σ2 H3 R else N H3)
    (hd : ∀ acc H', I ds.length acc → J1 H' → Ed U H H' → Df W H' (.ref D) (.list acc) → acc.length ≤ ds.length → Qd H') : LoopC (Ite K p) g tt te ws σ H D Qd := by
  have h' := h.more hD
  obtain ⟨xs, n, hp, r⟩ := h'.cells
  have hVW : ∀ a ∈ U, a ∈ D :: W := fun a z => List.mem_cons_of_mem _ (hV a z)
  have l := r.length
  refine lc_gen hσ (walk_enum (xs := xs)) (by rw [l]; exact hn) hD hw hV I J1 hJ hJ0 hI0 (fun H' e => SqL.of (e.1 _ _ (fun z => n (hVW _ z)) hp)) ?_ (by rw [l]; exact hd)
  rintro i x acc H1 H2 R N hi h1 h2 h3 h4 ⟨t, x1, y1, rfl, ht, rfl, e1, e2⟩ h5 h6
  cases e1
  obtain ⟨d, e3, e4⟩ := (r.ed h3 hVW).at' e2
  have e5 : Ed [] H1 (upd H1 t (.tup [.int (i : Nat), y1])) := Ed.new ht
  exact hs i _ t d acc _ R N e3 h1 (hJn _ _ h2 e5) (h3.tr e5 no0) (h4.ed e5) (SqT.of upd_same) (e4.ed e5 no0) (fun y H4 dy k1 => h5 y H4 dy ((Ed.tr Ed.refl e5 no0).tr k1 fun a z => .inl z)) (fun H3 k1 => h6 H3 ((Ed.tr Ed.refl e5 no0).tr k1 fun a z => .inl z))
end
end NL
namespace NL
open PySem L2
/-- the bag of draws at b: two ints -/
def Bag (H : Hp) (b : Addr) : Prop := ∃ x y : Int, H b = some (.lst [.int x, .int y])
theorem Bag.at {H : Hp} {b : Addr} {x y : Int} : Bag (upd H b (.lst [.int x, .int y])) b := ⟨x, y, upd_same⟩
theorem Bag.new {H : Hp} {b p : Addr} {o : HO} (h : Bag H b) (n : H p = none) : Bag (upd H p o) b := by
  obtain ⟨x, y, e⟩ := h
  exact ⟨x, y, by rw [upd_ne (ne_of_none e n)]; exact e⟩
theorem Bag.put {H : Hp} {b p : Addr} {o : HO} (h : Bag H b) (n : b ≠ p) : Bag (upd H p o) b := by
  obtain ⟨x, y, e⟩ := h
  exact ⟨x, y, by rw [upd_ne n]; exact e⟩
theorem Bag.ne {H : Hp} {b p : Addr} (h : Bag H b) (n : H p = none) : p ≠ b := by
  obtain ⟨x, y, e⟩ := h
  exact (ne_of_none e n).symm
section
variable {U W : List Addr} {H H' : Hp} {b p a : Addr} {ds es : List PyData} {d : PyData} {K : PySem.W.Frag}
theorem Bag.ed (h : Bag H b) (e : Ed U H H') (n : b ∉ U) : Bag H' b := by
  obtain ⟨x, y, q⟩ := h
  exact ⟨x, y, e.1 _ _ n q⟩
theorem Bag.alive (h : Bag H b) : H b ≠ none := by
  obtain ⟨x, y, q⟩ := h
  rw [q]; exact fun z => nomatch z
theorem sub1 (h : b ∈ W) : ∀ a ∈ [b], a ∈ W := fun a z => by rw [List.mem_singleton.mp z]; exact h
theorem sub2 {c : Addr} (h : b ∈ W) (h2 : c ∈ W) : ∀ a ∈ [b, c], a ∈ W := fun a z => by
  rcases List.mem_cons.mp z with rfl | z
  · exact h
  · rw [List.mem_singleton.mp z]; exact h2
theorem subr : ∀ a ∈ W, a ∈ W := fun _ z => z
theorem subc {U : List Addr} (h : ∀ a ∈ U, a ∈ W) : ∀ a ∈ U, a ∈ b :: W := fun a z => List.mem_cons_of_mem _ (h a z)
theorem edv1 (h : b ∈ U ∨ H b = none) : ∀ a ∈ [b], a ∈ U ∨ H a = none := fun a z => by rw [List.mem_singleton.mp z]; exact h
theorem edvl {V : List Addr} (h : ∀ a ∈ V, a ∈ U) : ∀ a ∈ V, a ∈ U ∨ H a = none := fun a z => .inl (h a z)
theorem Wl.cons' (h : H a ≠ none) (r : Wl W H) : Wl (a :: W) H := fun c hc => by
  rcases List.mem_cons.mp hc with rfl | hc
  · exact h
  · exact r c hc
theorem Wl.tail (h : Wl (a :: W) H) : Wl W H := fun c hc => h c (List.mem_cons_of_mem _ hc)
theorem nb_bld (h : Bld W H p ds) (hb : b ∈ W) : b ∉ [p] := fun z => h.1 (by rw [← List.mem_singleton.mp z]; exact hb)
theorem nb_wl (w : Wl W H) (hp : H p = none) (hb : b ∈ W) : b ∉ [p] := fun z => w b hb (by rw [List.mem_singleton.mp z]; exact hp)
theorem Ed.weak {V : List Addr} (e : Ed U H H') (h : ∀ a ∈ U, a ∈ V) : Ed V H H' := ⟨fun a o n q => e.1 a o (fun z => n (h a z)) q, e.2⟩
end
section
variable {U W : List Addr} {H0 H1 H2 : Hp} {p q b : Addr} {v : V} {d : PyData} {ds : List PyData}
theorem Df.via (e : Ed [p] H1 H2) (hp : H0 p = none) (ed : Ed W H0 H2) (h : Df W H0 v d) : Df W H2 v d := h.ed ed subr
theorem Bld.via (e : Ed [p] H1 H2) (hp : H0 p = none) (ed : Ed W H0 H2) (h : Bld W H0 q ds) : Bld W H2 q ds := h.ed ed subr
theorem Bag.via (e : Ed [p] H1 H2) (hp : H0 p = none) (ed : Ed [] H0 H2) (h : Bag H0 b) : Bag H2 b := h.ed ed List.not_mem_nil
end
/-- what lies in H lies in H' -/
def Al (H H' : Hp) : Prop := ∀ a, H a ≠ none → H' a ≠ none
theorem Al.refl {H : Hp} : Al H H := fun _ h => h
theorem Al.of {U : List Addr} {H0 H1 H2 : Hp} (e : Ed U H1 H2) (h : Al H0 H1) : Al H0 H2 := fun a z => e.2 a (h a z)
theorem Al.free {H H' : Hp} {a : Addr} (e : Al H H') (h : H' a = none) : H a = none := by
  by_cases z : H a = none
  · exact z
  · exact absurd h (e a z)
theorem bagJ {W : List Addr} {H : Hp} {b D : Addr} (w : Wl W H) (hD : H D = none) (hb : b ∈ W) : ∀ H' H'', Bag H' b → Ed [D] H' H'' → Bag H'' b := fun _ _ h e => h.ed e (nb_wl w hD hb)
theorem eqv_nil {ds : List PyData} : PyData.eqv (.list ds) (.list []) = ds.isEmpty := by
  cases ds with
  | nil => rfl
  | cons d r => simp [PyData.eqv, PyData.eqvAll]
theorem Sh.strs {xs : List Str} (h : ∀ x ∈ xs, PyData.strOk x = true) : Sh (.list (xs.map PyData.str)) := (Sd.list (n := 0) (Sd.map fun x hx => Sd.str (h x hx))).sh (by decide)
theorem Sh.nil : Sh (.list []) := (Sd.list (n := 0) Sd.nil).sh (by decide)
theorem Sh.ints {xs : List Int} : Sh (.list (xs.map PyData.int)) := (Sd.list (n := 0) (Sd.map fun x hx => Sd.int x)).sh (by decide)
theorem g_tyB {K : PySem.W.Frag} {W : List Addr} {H : Hp} {p : Addr} {ds : List PyData} {R : Prop} (h : Bld W H p ds) (k : R) : tyV K "list" (.ref p) H ∧ R := by
  obtain ⟨_, xs, h, _⟩ := h
  exact g_tyL (SqL.of h) k
theorem g_tyD {K : PySem.W.Frag} {W : List Addr} {H : Hp} {p : Addr} {ds : List PyData} {R : Prop} (h : Df W H (.ref p) (.list ds)) (k : R) : tyV K "list" (.ref p) H ∧ R := by
  obtain ⟨xs, _, h, _⟩ := h.cells
  exact g_tyL (SqL.of h) k
/-! ### more rules -/
section
variable {X : Cx} (K : PySem.W.Frag) {e e2 : Expr} {ta : TA} {p pos tpos : Pos} {elts : List Expr} {kk : Nat}
theorem q_zip (hg : Gl X "zip") (hm : X.mg "zip" = none) (ha : PA X [e, e2] ta) (h1 : starEach [e, e2] X.env = (false, eval e X.env) :: starEach [e2] X.env := by rfl) (h2 : ((backTo pos (starEach [e2] X.env)).any fun x => x.fst) = false := by rfl) (h : X.K = K := by rfl) :
    PI X (.Tuple elts kk tpos) (.Call (.Name "zip" p) [e, e2] [] pos) (iZip K ta) := h ▸ pi_zip hg hm ha h1 h2
theorem cl_sum0 (hc : X.calm = true) : CallR X (.builtin "sum") (rSum X.K) := cr_sum hc
theorem cl_sum (hc : X.calm = true := by rfl) (h : X.K = K := by rfl) : CallR X (.builtin "sum") (rSum K) := h ▸ cl_sum0 hc
end
section
variable {U V W : List Addr} {H H' : Hp} {σ : L2.St} {ds es : List PyData} {K : PySem.W.Frag} {p q : Addr} {Q : VK}
theorem g_iZ {ta : TA} {R : It → Hp → Prop} (h : ta σ H fun vs H1 => ∃ a b xs ys, vs = [.ref a, .ref b] ∧ SqL K H1 a xs ∧ SqL K H1 b ys ∧ R (Itz K a b) H1) : iZip K ta σ H R := h
theorem g_iZd {Z : Addr → Addr → Prop} (z1 : Df W H (.ref p) (.list ds)) (z2 : Df W H (.ref q) (.list es)) (h : Z p q) : ∃ a b xs ys, [L2.V.ref p, L2.V.ref q] = [.ref a, .ref b] ∧ SqL K H a xs ∧ SqL K H b ys ∧ Z a b := by
  obtain ⟨xs, n, hp, r⟩ := z1.cells
  obtain ⟨ys, m, hq, t⟩ := z2.cells
  exact ⟨p, q, xs, ys, rfl, SqL.of hp, SqL.of hq, h⟩
theorem g_allB {bs : List Bool} (h : Df W H (.ref p) (.list (bs.map PyData.bool))) (k : Q (.bl (bs.all id)) H) : rAll K [.ref p] H Q := ⟨p, bs, rfl, SqL.of h.boolL.2, k⟩
theorem g_sum {ns : List Int} (h : Df W H (.ref p) (.list (ns.map PyData.int))) (k : Q (.int ns.sum) H) : rSum K [.ref p] H Q := ⟨p, ns, rfl, SqL.of h.intL.2, k⟩
variable {g : TG} {tb : TS} {nx : L2.St → Hp → Prop} {rt : VK} {bk ct : L2.St → Hp → Prop}
/-- for x, y in zip(..) -/
theorem lp_zip (h : Df W H (.ref p) (.list ds)) (h2 : Df W H (.ref q) (.list es)) (hl : ds.length = es.length) (hw : Wl W H) (Pv : Nat → L2.St → Hp → Prop) (h0 : Pv 0 σ H) (hk : ∀ i σ' H', i ≤ ds.length → Pv i σ' H' → Ed W H H')
    (hs : ∀ i x y t d e σ' H' H2, ds[i]? = some d → es[i]? = some e → Pv i σ' H' → Ed [] H' H2 → SqT K H2 t [x, y] → Df W H2 x d → Df W H2 y e → g (.ref t) σ' H2 fun σ2 H2 => tb ⟨Pv (i + 1), rt, nx, Pv (i + 1)⟩ σ2 H2) (hn : ∀ σ' H', Pv ds.length σ' H' → nx σ' H') : Loop (Itz K p q) g tb ⟨nx, rt, bk, ct⟩ σ H := by
  obtain ⟨xs, n, hp, r⟩ := h.cells
  obtain ⟨ys, m, hq, u⟩ := h2.cells
  have l1 := r.length
  have l2 := u.length
  refine lp_it (walk_zip (xs := xs) (ys := ys) (n := ds.length) (by rw [l1, l2, ← hl, Nat.min_self])) Pv h0 (fun i σ' H' hi hP => ⟨SqL.of ((hk i σ' H' hi hP).1 _ _ n hp), SqL.of ((hk i σ' H' hi hP).1 _ _ m hq)⟩) ?_ hn
  rintro i x σ' H' H2 hi hP ⟨t, x1, y1, rfl, ht, rfl, e1, e2⟩
  have ee := hk i σ' H' (by omega) hP
  obtain ⟨d, d1, d2⟩ := (r.ed ee fun _ z => z).at' e1
  obtain ⟨e, f1, f2⟩ := (u.ed ee fun _ z => z).at' e2
  exact hs i _ _ t d e σ' H' _ d1 f1 hP (Ed.new ht) (SqT.of upd_same) (d2.ed (Ed.new ht) no0) (f2.ed (Ed.new ht) no0)
end
/-! ### a cut: what comes behind an if, once -/
def tSeqC (t u : TS) : TS := tSeq t u
theorem pss_cut {X : Cx} {s : Stmt} {r : List Stmt} {t u : TS} (h1 : PS X s t) (h2 : PSs X r u) : PSs X (s :: r) (tSeqC t u) := pss_cons h1 h2
theorem g_cut {t u : TS} {nx : L2.St → Hp → Prop} {rt : VK} {bk ct : L2.St → Hp → Prop} {σ : L2.St} {H : Hp} (I : L2.St → Hp → Prop) (h1 : ∀ R : L2.St → Hp → Prop, (∀ σ' H', I σ' H' → R σ' H') → t ⟨R, rt, bk, ct⟩ σ H) (h2 : ∀ σ' H', I σ' H' → u ⟨nx, rt, bk, ct⟩ σ' H') : tSeqC t u ⟨nx, rt, bk, ct⟩ σ H := h1 _ h2
theorem g_par {i j : Nat} {ta : TA} {nx : L2.St → Hp → Prop} {rt : VK} {bk ct : L2.St → Hp → Prop} {σ : L2.St} {H : Hp} (h : ta σ H fun vs H1 => ∃ v w, vs = [v, w] ∧ gName i v σ H1 fun σ1 H2 => gName j w σ1 H2 nx) : tPar i j ta ⟨nx, rt, bk, ct⟩ σ H := h
theorem g_par2 {v w : V} {Z : V → V → Prop} (h : Z v w) : ∃ a b, [v, w] = [a, b] ∧ Z a b := ⟨v, w, rfl, h⟩
/-- a tuple's part -/
theorem sl_tupD {X : Cx} (K : PySem.W.Frag) (h : X.K = K := by rfl) : SlR X (rSlA K) := h ▸ sl_tupA
theorem g_slT {K : PySem.W.Frag} {W : List Addr} {H : Hp} {p : Addr} {ds : List PyData} {lo hi : Option Int} {Q : VK} (h : Df W H (.ref p) (.tuple ds)) (w : Wl W H) (hn : ¬ (HT.sIx ds.length 0 lo = 0 ∧ HT.sIx ds.length ds.length hi = ds.length)) (k : ∀ q H', H q = none → Ed [] H H' → Df W H' (.ref q) (.tuple (cutD ds lo hi)) → Q (.ref q) H') : rSlA K (.ref p) lo hi H Q := by
  obtain ⟨xs, n, hp, r⟩ := h.cellsT
  have l := r.length
  refine ⟨p, xs, rfl, SqT.of hp, fun z => absurd (by rw [← l]; exact z) hn, fun _ q hq => k q _ hq (Ed.new hq) (.tup (w.not hq) upd_same ?_)⟩
  have : DfAll W H (cutV xs lo hi) (cutD ds lo hi) := by
    unfold cutV cutD
    rw [l]
    exact (r.drop _).take _
  exact this.ed (Ed.new hq) no0
theorem g_iTd {K : PySem.W.Frag} {W : List Addr} {H : Hp} {p : Addr} {ds : List PyData} {Z : Addr → Prop} (z : Df W H (.ref p) (.tuple ds)) (h : Z p) : ∃ a, V.ref p = .ref a ∧ (∃ xs, SqT K H a xs) ∧ Z a := by
  obtain ⟨xs, n, hp, r⟩ := z.cellsT
  exact ⟨p, rfl, ⟨xs, SqT.of hp⟩, h⟩
/-- a comprehension over a tuple of data -/
theorem lc_dt {K : PySem.W.Frag} {U W : List Addr} {H : Hp} {p D : Addr} {ds : List PyData} {g : TG} {tt : TT} {te : TE} {ws : List Nat} {σ σw : L2.St} {Qd : Hp → Prop} (hσ : wipe σ ws = σw) (h : Df W H (.ref p) (.tuple ds)) (hn : ds.length < sizeLine) (hD : H D = none) (hw : Wl W H) (hV : ∀ a ∈ U, a ∈ W) (I : Nat → List PyData → Prop) (J1 : Hp → Prop) (hJ : ∀ H' H'', J1 H' → Ed [D] H' H'' → J1 H'') (hJ0 : J1 H) (hI0 : I 0 [])
    (hs : ∀ i x d acc H' (R : VK) (N : Hp → Prop), ds[i]? = some d → I i acc → J1 H' → Ed U H H' → Wl (D :: W) H' → Df (D :: W) H' x d → (∀ y H4 dy, Ed U H' H4 → Df (D :: W) H4 y dy → J1 H4 → I (i + 1) (acc ++ [dy]) → R y H4) → (∀ H3, Ed U H' H3 → J1 H3 → I (i + 1) acc → N H3) →
      g x σw H' fun σ2 H2 => wipe σ2 ws = σw ∧ tt σ2 H2 fun b H3 => if b = true then te σ2 H3 R else N H3)
    (hd : ∀ acc H', I ds.length acc → J1 H' → Ed U H H' → Df W H' (.ref D) (.list acc) → acc.length ≤ ds.length → Qd H') : LoopC (Itt K p) g tt te ws σ H D Qd := by
  have h' := h.more hD
  obtain ⟨xs, n, hp, r⟩ := h'.cellsT
  have hVW : ∀ a ∈ U, a ∈ D :: W := fun a z => List.mem_cons_of_mem _ (hV a z)
  have l := r.length
  refine lc_gen hσ (walk_tup (xs := xs)) (by rw [l]; exact hn) hD hw hV I J1 hJ hJ0 hI0 (fun H' e => SqT.of (e.1 _ _ (fun z => n (hVW _ z)) hp)) ?_ (by rw [l]; exact hd)
  rintro i x acc H1 H2 R N hi h1 h2 h3 h4 ⟨rfl, e⟩ h5 h6
  obtain ⟨d, e1, e2⟩ := (r.ed h3 hVW).at' e
  exact hs i x d acc _ R N e1 h1 h2 h3 h4 e2 h5 h6
theorem g_uncut {t u : TS} {D : Ends} {σ : L2.St} {H : Hp} (h : tSeq t u D σ H) : tSeqC t u D σ H := h
/-! ### dicts of texts -/
section
variable {U W : List Addr} {H H' : Hp} {p : Addr} {K : PySem.W.Frag} {Q : VK}
/-- the dict kvs lies at p, p is not in W -/
def Dk (W : List Addr) (H : Hp) (p : Addr) (kvs : List (Key × V)) : Prop := p ∉ W ∧ H p = some (.dK kvs)
theorem Dk.ed {kvs : List (Key × V)} (h : Dk W H p kvs) (e : Ed U H H') (hv : ∀ a ∈ U, a ∈ W) : Dk W H' p kvs := ⟨h.1, e.1 _ _ (fun z => h.1 (hv _ z)) h.2⟩
theorem Dk.more {kvs : List (Key × V)} {q : Addr} (hq : H q = none) (h : Dk W H p kvs) : Dk (q :: W) H p kvs := ⟨fun z => (List.mem_cons.mp z).elim (ne_of_none h.2 hq) h.1, h.2⟩
theorem Dk.via {kvs : List (Key × V)} {H0 H1 H2 : Hp} {q : Addr} (e : Ed [q] H1 H2) (hq : H0 q = none) (ed : Ed W H0 H2) (h : Dk W H0 p kvs) : Dk W H2 p kvs := h.ed ed subr
theorem Dk.df {kvs : List (Key × V)} (h : Dk W H p kvs) : Df W H (.ref p) (ob p) := .obj h.1 (by rw [h.2]; exact fun z => nomatch z)
theorem Dk.alive {kvs : List (Key × V)} (h : Dk W H p kvs) : H p ≠ none := by rw [h.2]; exact fun z => nomatch z
theorem new_d {kvs : List (Key × V)} {H1 : Hp} (h : upd H' p (.dK kvs) = H1) (w : Wl W H) (hp : H p = none) : Ed [p] H' H1 ∧ Dk W H1 p kvs := by
  subst h
  exact ⟨Ed.put, w.not hp, upd_same⟩
theorem new_e {H1 : Hp} (h : upd H p (.dK []) = H1) (hp : H p = none) (w : Wl W H) : Ed [] H H1 ∧ Dk W H1 p [] := by
  subst h
  exact ⟨Ed.new hp, w.not hp, upd_same⟩
/-- an object made, its __init__ ahead -/
theorem new_i {C x dx : Addr} {H1 : Hp} (h : upd (upd H dx (.own x)) x (.ins C dx []) = H1) (hx : H x = none) (hd : H dx = none) (ne : dx ≠ x) : Ed [] H H1 ∧ H1 x = some (.ins C dx []) := by
  subst h
  refine ⟨⟨fun a o _ e => ?_, fun a z => ?_⟩, upd_same⟩
  · rw [upd_ne (ne_of_none e hx), upd_ne (ne_of_none e hd)]; exact e
  · rw [upd_ne (fun q : a = x => z (by rw [q]; exact hx)), upd_ne (fun q : a = dx => z (by rw [q]; exact hd))]; exact z
def tPs : List (TE × TE) → TE := tDisp
theorem g_disp {trs : List (TE × TE)} {σ : L2.St} (h : ∀ p H0, H p = none → Ed [] H H0 → H0 p = some (.dK []) → tPairs trs σ H0 fun ps H2 => H2 p = some (.dK []) ∧ ∃ kvs : List (Key × V), ps = kvs.map (fun kv => (kV kv.1, kv.2)) ∧ kvs.length ≤ 15 ∧ Q (.ref p) (upd H2 p (.dK (mergeK [] kvs)))) : tDisp trs σ H Q :=
  fun p hp => h p _ hp (Ed.new hp) upd_same
theorem g_pr0 {σ : L2.St} {QP : List (V × V) → Hp → Prop} (h : QP [] H) : tPairs [] σ H QP := h
theorem g_pr {σ : L2.St} {tk tv : TE} {trs : List (TE × TE)} {QP : List (V × V) → Hp → Prop} (h : tk σ H fun x H1 => tv σ H1 fun y H2 => tPairs trs σ H2 fun ps H3 => QP ((x, y) :: ps) H3) : tPairs ((tk, tv) :: trs) σ H QP := h
theorem g_disped {kvs : List (Key × V)} {ps : List (V × V)} (w : Wl W H') (hp : p ∉ W) (h : H' p = some (.dK [])) (e : ps = kvs.map (fun kv => (kV kv.1, kv.2)) := by rfl) (hl : Nat.ble kvs.length 15 = true := by rfl) (k : ∀ H2, Ed [p] H' H2 → Dk W H2 p (mergeK [] kvs) → Q (.ref p) H2) :
    H' p = some (.dK []) ∧ ∃ kvs : List (Key × V), ps = kvs.map (fun kv => (kV kv.1, kv.2)) ∧ kvs.length ≤ 15 ∧ Q (.ref p) (upd H' p (.dK (mergeK [] kvs))) :=
  ⟨h, kvs, e, Nat.le_of_ble_eq_true hl, k _ Ed.put ⟨hp, upd_same⟩⟩
theorem g_din {σ : L2.St} {td ty : TE} (h : ty σ H fun y H1 => td σ H1 fun x H2 => ∃ a o, x = .ref a ∧ DGet H2 a y o ∧ Q (.bl o.isSome) H2) : tDIn ty td σ H Q := h
theorem g_dnin {σ : L2.St} {td ty : TE} (h : ty σ H fun y H1 => td σ H1 fun x H2 => ∃ a o, x = .ref a ∧ DGet H2 a y o ∧ Q (.bl (!o.isSome)) H2) : tDNotIn ty td σ H Q := h
theorem g_dind {kvs : List (Key × V)} {z : Str} {o : Option V} {Z : Option V → Prop} (z1 : Dk W H p kvs) (z2 : valV kvs (.inr z) = o) (h : Z o) : ∃ a o, V.ref p = .ref a ∧ DGet H a (.str z) o ∧ Z o := ⟨p, o, rfl, .inl ⟨kvs, .inr z, .inl z1.2, rfl, z2.symm⟩, h⟩
theorem g_dget2 {σ : L2.St} {td ty tx : TE} (h : td σ H fun x H1 => ∃ a, x = .ref a ∧ IsD H1 a ∧ ty σ H1 fun y H2 => tx σ H2 fun z H3 => ∃ o, DGet H3 a y o ∧ Q (o.getD z) H3) : tDGet2 td ty tx σ H Q := h
theorem g_isd {kvs : List (Key × V)} {Z : Addr → Prop} (z1 : Dk W H p kvs) (h : Z p) : ∃ a, V.ref p = .ref a ∧ IsD H a ∧ Z a := ⟨p, rfl, .inl ⟨kvs, .inl z1.2⟩, h⟩
theorem g_dgo {kvs : List (Key × V)} {z : Str} {o : Option V} {Z : Option V → Prop} (z1 : Dk W H p kvs) (z2 : valV kvs (.inr z) = o) (h : Z o) : ∃ o, DGet H p (.str z) o ∧ Z o := ⟨o, .inl ⟨kvs, .inr z, .inl z1.2, rfl, z2.symm⟩, h⟩
theorem g_dgd {kvs : List (Key × V)} {z : Str} {v : V} {Z : V → Prop} (z1 : Dk W H p kvs) (z2 : valV kvs (.inr z) = some v) (h : Z v) : ∃ a v, V.ref p = .ref a ∧ DGet H a (.str z) (some v) ∧ Z v := g_dgs z1.2 z2 h
end
end NL
namespace NL
open PySem L2
local macro_rules | `(tactic| walk_at "wipe") => `(tactic| (simp only [wipe_cons, wipe_nil, List.map_cons, List.map_nil, List.set_cons_succ, List.set_cons_zero]; rfl))
local macro_rules | `(tactic| walk_at "mem") => `(tactic| first | assumption | exact List.mem_cons_self .. | (apply List.mem_cons_of_mem; walk_at "mem"))
local macro_rules | `(tactic| walk_at "sub") => `(tactic| first | exact no0 | exact subr | (refine sub1 ?_; walk_at "mem") | (refine subc ?_; walk_at "sub"))
local macro_rules | `(tactic| walk_at "df") => `(tactic| first
  | assumption | exact Df.int _ | exact Df.str _ | exact Df.non | exact Df.bl _
  | exact Bld.done (by assumption)
  | exact Dk.df (by assumption)
  | ((refine' Df.ed (by assumption) ?s ?h); (case s => walk_at "sub"); (case h => walk_at "df"))
  | ((refine' Df.via (by assumption) (by assumption) ?e ?h); (case e => walk_at "ed"); (case h => walk_at "df"))
  | ((refine' Df.more (by assumption) ?h); (case h => walk_at "df"))
  | ((refine' Df.weak ?s ?h); (case h => assumption); (case s => walk_at "sub")))
local macro_rules | `(tactic| walk_at "dfs") => `(tactic| first
  | assumption | exact DfAll.nil | ((refine' DfAll.cons ?a ?b); (case a => walk_at "df"); (case b => walk_at "dfs"))
  | exact DfAll.strs _ | exact DfAll.ints _)
local macro_rules | `(tactic| walk_at "dk") => `(tactic| first
  | assumption
  | ((refine' Dk.ed ?h (by assumption) ?s); (case s => walk_at "sub"); (case h => walk_at "dk"))
  | ((refine' Dk.via (by assumption) (by assumption) ?e ?h); (case e => walk_at "ed"); (case h => walk_at "dk"))
  | ((refine' Dk.more (by assumption) ?h); (case h => walk_at "dk")))
local macro_rules | `(tactic| walk_at "alive") => `(tactic| first | assumption | exact Bag.alive (by assumption) | exact Bld.alive (by assumption) | exact Df.alive (by assumption) | exact Dk.alive (by assumption))
local macro_rules | `(tactic| walk_at "wl") => `(tactic| first
  | assumption | exact Wl.nil
  | ((refine Wl.cons' ?a ?r); (case a => walk_at "alive"); (case r => walk_at "wl"))
  | ((refine Wl.ed ?r (by assumption)); (case r => walk_at "wl"))
  | exact Wl.tail (by assumption))
local macro_rules | `(tactic| walk_at "al") => `(tactic| first | exact Al.refl | ((refine' Al.of (by assumption) ?h); (case h => walk_at "al")))
local macro_rules | `(tactic| walk_at "fr") => `(tactic| first | assumption | ((refine' Al.free ?e (by assumption)); (case e => walk_at "al")))
local macro_rules | `(tactic| walk_at "edv") => `(tactic| first | exact no0 | ((refine edvl ?s); (case s => walk_at "sub")) | ((refine edv1 (Or.inr ?f)); (case f => walk_at "fr")))
local macro_rules | `(tactic| walk_at "ed") => `(tactic| first
  | assumption | exact Ed.refl
  | ((refine Ed.tr ?x (by assumption) ?v); (case x => walk_at "ed"); (case v => walk_at "edv")))
local macro_rules | `(tactic| walk_at "nb") => `(tactic| first | exact List.not_mem_nil | assumption | exact nb_bld (by assumption) (by walk_at "mem"))
local macro_rules | `(tactic| walk_at "bag") => `(tactic| first
  | assumption
  | ((refine' Bag.ed ?h (by assumption) ?n); (case n => walk_at "nb"); (case h => walk_at "bag"))
  | ((refine' Bag.via (by assumption) (by assumption) ?e ?h); (case e => walk_at "ed"); (case h => walk_at "bag")))
local macro_rules | `(tactic| walk_at "bld") => `(tactic| first
  | assumption
  | ((refine' Bld.ed ?h (by assumption) ?s); (case s => walk_at "sub"); (case h => walk_at "bld"))
  | ((refine' Bld.via (by assumption) (by assumption) ?e ?h); (case e => walk_at "ed"); (case h => walk_at "bld")))
local macro_rules | `(tactic| walk_at "num") => `(tactic| first | omega | assumption)
local macro_rules | `(tactic| walk_at "ne") => `(tactic| first
  | assumption
  | (apply Ne.symm; assumption)
  | (refine' ne_of_none ?n1 (by assumption); (case n1 => walk_at "hp"))
  | (refine' Ne.symm (ne_of_none ?n1 (by assumption)); (case n1 => walk_at "hp")))
local macro_rules | `(tactic| walk_at "hp") => `(tactic| first
  | assumption
  | with_reducible exact upd_same
  | ((with_reducible refine Eq.trans (upd_ne ?n1) ?n2); (case n1 => walk_at "ne"); (case n2 => walk_at "hp"))
  | ((with_reducible refine hp_same (by assumption) ?n2); (case n2 => walk_at "hp"))
  | ((with_reducible refine hp_sx (by assumption) ?n1 ?n2); (case n1 => simp only [List.mem_cons, List.not_mem_nil, or_false]; walk_at "ne"); (case n2 => walk_at "hp")))
local macro_rules | `(tactic| walk_at "sq") => `(tactic| first
  | assumption
  | ((refine' Or.inl ?n1); (case n1 => walk_at "sql"))
  | ((refine' Or.inr ?n1); (case n1 => walk_at "sqt")))
local macro_rules | `(tactic| walk_at "sql") => `(tactic| first
  | assumption
  | ((refine' SqL.of ?n1); (case n1 => walk_at "hp"))
  | (refine sqL_same (by assumption) ?n1; (case n1 => walk_at "same")))
local macro_rules | `(tactic| walk_at "same") => `(tactic| first
  | assumption
  | exact Same.refl _
  | (refine L2.Same.new ?n1 (by assumption); (case n1 => walk_at "same"))
  | (refine L2.Same.mut ?n1 ?n2; (case n2 => first | assumption | exact Same.free (by assumption) (by assumption)); (case n1 => walk_at "same")))
local macro_rules | `(tactic| walk_at "sqt") => `(tactic| first
  | assumption
  | ((refine' SqT.of ?n1); (case n1 => walk_at "hp")))
local macro_rules | `(tactic| walk_at "size") => `(tactic| (rw [sizeLine_eq] <;> first | omega | (simp; omega)))
local macro_rules | `(tactic| walk_at "flat") => `(tactic| first | assumption | exact flat_strs _ | exact flat_ints _ | rfl | simp [flatV])
local macro_rules | `(tactic| walk_at "go1") => `(tactic| first
  | with_reducible refine g_seq ?_
  | with_reducible refine g_asg ?_
  | ((with_reducible refine' g_nameE ?z ?_); (case z => (simp only [List.set_cons_succ, List.set_cons_zero]; rfl)))
  | with_reducible refine g_name ?_
  | with_reducible refine g_op ?_
  | ((with_reducible refine' g_var ?z ?_); (case z => exact rfl))
  | with_reducible refine g_c ?_
  | with_reducible refine g_cb ?_
  | with_reducible refine g_cons ?_
  | with_reducible refine g_nil ?_
  | with_reducible refine g_ifS ?_
  | with_reducible refine g_test ?_
  | with_reducible refine g_tb ?_
  | with_reducible refine g_bl ?_
  | with_reducible refine g_not ?_
  | with_reducible refine g_and ?_
  | with_reducible refine g_or ?_
  | with_reducible refine g_ret ?_
  | with_reducible refine g_retN ?_
  | with_reducible refine g_drop ?_
  | with_reducible refine g_ifE ?_
  | with_reducible refine g_callS ?_
  | with_reducible refine g_sub ?_
  | with_reducible refine g_un ?_
  | with_reducible refine g_next ?_
  | with_reducible refine g_cmp_i ?_
  | with_reducible refine g_add_i ?_
  | with_reducible refine g_sub_i ?_
  | with_reducible refine g_int_i ?_
  | with_reducible refine g_eq_i ?_
  | with_reducible refine g_eq_s ?_
  | with_reducible refine g_eq_b ?_
  | with_reducible refine g_ne_i ?_
  | with_reducible refine g_ne_s ?_
  | with_reducible refine g_ne_b ?_
  | with_reducible refine g_str_s ?_
  | with_reducible refine g_abs ?_
  | with_reducible refine g_max ?_
  | with_reducible refine g_min ?_
  | with_reducible refine g_isN ?_
  | with_reducible refine g_isNotN ?_
  | ((with_reducible refine g_mod_i ?z ?_); (case z => walk_at "num"))
  | ((with_reducible refine g_div_i ?z ?_); (case z => exact ⟨by walk_at "num", by first | assumption | decide⟩))
  | ((with_reducible refine g_mul_i ?z ?_); (case z => first | exact Or.inl (Or.inr ⟨by omega, by omega⟩) | exact Or.inl (Or.inl ⟨by omega, by omega⟩) | assumption))
  | ((with_reducible refine' g_ix_l ?z1 ?z2 ?_); (case z1 => walk_at "sq"); (case z2 => first | rfl | assumption))
  | ((with_reducible refine' g_setL ?z1 ?z2 ?_); (case z1 => walk_at "hp"); (case z2 => first | rfl | assumption))
  | ((with_reducible refine' g_len_l ?z1 ?_); (case z1 => walk_at "sq"))
  | ((with_reducible refine' g_augE ?z ?_); (case z => exact rfl))
  | with_reducible refine g_for ?_
  | with_reducible refine g_lc ?_
  | with_reducible refine g_iL ?_
  | with_reducible refine g_iT ?_
  | with_reducible refine g_iS ?_
  | with_reducible refine g_iS1 ?_
  | with_reducible refine g_iE ?_
  | with_reducible refine g_iR ?_
  | ((with_reducible refine' g_iL1 ?z1 ?_); (case z1 => walk_at "sql"))
  | ((with_reducible refine' g_iT1 ?z1 ?_); (case z1 => walk_at "sqt"))
  | ((with_reducible refine' g_iE1 ?z1 ?_); (case z1 => walk_at "sql"))
  | ((with_reducible refine g_iR1 ?z1 ?z2 ?_); (case z1 => walk_at "num"); (case z2 => walk_at "num"))
  | with_reducible refine g_yes ?_
  | with_reducible refine g_sl ?_
  | with_reducible refine g_noP ?_
  | with_reducible refine g_part ?_
  | ((with_reducible refine g_pow_i ?z ?_); (case z => exact ⟨by decide, by decide, by decide⟩))
  | ((with_reducible refine g_len_s ?z ?_); (case z => first | assumption | walk_at "size"))
  | with_reducible refine iteT ?_
  | with_reducible refine iteF ?_
  | with_reducible refine iteNT ?_
  | with_reducible refine iteNF ?_
  | with_reducible refine g_int1 ?_
  | ((with_reducible refine' g_slL ?z1 ?_); (case z1 => walk_at "sql"))
  | ((with_reducible refine' g_listL ?z1 ?_); (case z1 => walk_at "sq"))
  | ((with_reducible refine' g_inLs ?z1 ?_); (case z1 => walk_at "sq"))
  | ((with_reducible refine' g_ninLs ?z1 ?_); (case z1 => walk_at "sq"))
  | with_reducible refine g_ip ?_
  | with_reducible refine g_rU ?_
  | ((with_reducible refine' g_inL ?z1 ?z2 ?z3 ?_); (case z1 => walk_at "sq"); (case z2 => rfl); (case z3 => walk_at "flat"))
  | ((with_reducible refine' g_ninL ?z1 ?z2 ?z3 ?_); (case z1 => walk_at "sq"); (case z2 => rfl); (case z3 => walk_at "flat"))
  | with_reducible refine g_inS ?_
  | with_reducible refine g_ninS ?_
  | with_reducible refine g_bm ?_
  | with_reducible refine g_bm0 ?_
  | ((with_reducible refine' g_tyL ?z1 ?_); (case z1 => walk_at "sql"))
  | with_reducible refine g_tyS ?_
  | ((with_reducible refine' g_tyB ?z1 ?_); (case z1 => assumption))
  | ((with_reducible refine' g_tyD ?z1 ?_); (case z1 => assumption))
  | ((with_reducible refine' g_app ?z1 ?z2 ?_); (case z1 => walk_at "hp"); (case z2 => walk_at "size"))
  | ((with_reducible refine' g_join ?z1 ?z2 ?_); (case z1 => walk_at "sq"); (case z2 => walk_at "size"))
  | ((with_reducible refine g_words ?z ?_); (case z => walk_at "size"))
  | ((with_reducible refine g_split ?z1 ?z ?_); (case z1 => rfl); (case z => walk_at "size"))
  | with_reducible refine g_lst ?_
  | with_reducible refine g_tup ?_
  | with_reducible refine tru_b ?_
  | with_reducible refine tru_n ?_
  | with_reducible refine tru_i ?_
  | with_reducible refine g_andT ?_
  | with_reducible refine g_orT ?_
  | with_reducible refine g_notT ?_
  | with_reducible refine g_raise ?_
  | with_reducible refine g_raised ?_
  | with_reducible refine g_make ?_
  | with_reducible refine g_meth ?_
  | with_reducible refine g_fld ?_
  | with_reducible refine g_sfld ?_
  | ((with_reducible refine' g_gf ?z1 ?z2 ?z3 ?z4 ?_); (case z1 => walk_at "hp"); (case z2 => assumption); (case z3 => assumption); (case z4 => rfl))
  | ((with_reducible refine' g_sf ?z1 ?z2 ?z3 ?z4 ?_); (case z1 => walk_at "hp"); (case z2 => assumption); (case z3 => assumption); (case z4 => exact Nat.lt_of_lt_of_le (Nat.lt_succ_self _) (Nat.le_of_ble_eq_true rfl)))
  | ((with_reducible refine' g_gtup ?z1 ?z2 ?_); (case z1 => walk_at "sqt"); (case z2 => rfl))
  | with_reducible refine g_gcons ?_
  | with_reducible refine g_gnil ?_
  | with_reducible refine g_callO ?_
  | ((with_reducible refine' g_co ?z1 ?_); (case z1 => walk_at "hp"))
  | ((with_reducible refine' g_ci ?z1 ?_); (case z1 => walk_at "hp"))
  | with_reducible refine g_dget ?_
  | ((with_reducible refine' g_dgs ?z1 ?z2 ?_); (case z1 => walk_at "hp"); (case z2 => first | assumption | rfl))
  | with_reducible refine g_dput ?_
  | ((with_reducible refine' g_dps ?z1 ?z2 ?_); (case z1 => walk_at "hp"); (case z2 => walk_at "size"))
  | with_reducible refine g_match ?_
  | with_reducible refine g_matched ?_
  | with_reducible refine g_mcs ?_
  | with_reducible refine g_mcg ?_
  | with_reducible refine g_many ?_
  | with_reducible refine g_mnil ?_
  | with_reducible refine g_afld ?_
  | with_reducible refine g_rAdd ?_
  | with_reducible refine g_rSub ?_
  | ((with_reducible refine' g_gfa ?z1 ?z2 ?z3 ?z4 ?_); (case z1 => walk_at "hp"); (case z2 => assumption); (case z3 => assumption); (case z4 => rfl))
  | ((with_reducible refine' g_af ?z1 ?z2 ?_); (case z1 => walk_at "hp"); (case z2 => exact Nat.lt_of_lt_of_le (Nat.lt_succ_self _) (Nat.le_of_ble_eq_true rfl)))
  | ((with_reducible refine' g_mt ?z1 ?z2 ?_); (case z1 => walk_at "hp"); (case z2 => rfl))
  | with_reducible refine g_ite_refl ?_
  | with_reducible refine g_iZ ?_
  | with_reducible refine g_din ?_
  | with_reducible refine g_par ?_
  | with_reducible refine g_par2 ?_
  | ((with_reducible refine' g_iTd ?z1 ?_); (case z1 => assumption))
  | with_reducible refine g_dget2 ?_
  | ((with_reducible refine' g_isd ?z1 ?_); (case z1 => assumption))
  | with_reducible refine g_dnin ?_
  | with_reducible refine g_disp ?_
  | with_reducible refine g_pr ?_
  | with_reducible refine g_pr0 ?_
  | ((with_reducible refine' g_iLd ?z1 ?_); (case z1 => assumption))
  | ((with_reducible refine' g_iEd ?z1 ?_); (case z1 => assumption))
  | ((with_reducible refine' g_iZd ?z1 ?z2 ?_); (case z1 => assumption); (case z2 => assumption))
  | ((with_reducible refine' g_lend ?z1 ?_); (case z1 => assumption))
  | ((with_reducible refine' g_inds ?z1 ?_); (case z1 => assumption))
  | ((with_reducible refine' g_ninds ?z1 ?_); (case z1 => assumption))
  | ((with_reducible refine' g_dgd ?z1 ?z2 ?_); (case z1 => assumption); (case z2 => first | assumption | rfl))
  | with_reducible refine g_brk ?_
  | with_reducible refine g_cont ?_)
local macro_rules | `(tactic| walk_at "go") => `(tactic| repeat walk_at "go1")
def top (i : Nat) : Stmt := PySem.Challenge.pw_nowlater_k04_conditions_refused.main.body.getD i (.Pass ⟨0, 0, 0, 0⟩)
abbrev FnP (K : PySem.W.Frag) (x qual : Str) (st : Stmt) (f : Addr) (fd : FuncData) : Prop := FunD K x qual (defArgs st) (defBody st) (defScope st) [] [] f fd
structure Txt (K : PySem.W.Frag) (mg : Str → Option Value) : Prop where
  n_ValueError : mg "ValueError" = none
  n_abs : mg "abs" = none
  n_bool : mg "bool" = none
  n_enumerate : mg "enumerate" = none
  n_int : mg "int" = none
  n_isinstance : mg "isinstance" = none
  n_len : mg "len" = none
  n_list : mg "list" = none
  n_max : mg "max" = none
  n_min : mg "min" = none
  n_range : mg "range" = none
  n_str : mg "str" = none
  g_MOST_TERMS : GV mg "MOST_TERMS" (.int 5)
  g_SIGNS : GV mg "SIGNS" (.ref (He.ga K "SIGNS"))
  t_SIGNS : ∀ H : Hp, SqT K H (He.ga K "SIGNS") [.str (PySem.Str.ofString "="), .str (PySem.Str.ofString "!="), .str (PySem.Str.ofString "<"), .str (PySem.Str.ofString "<="), .str (PySem.Str.ofString ">"), .str (PySem.Str.ofString ">=")]
  g_BadCondition : GV mg "BadCondition" (.ref (He.ga K "BadCondition"))
  m_BadCondition : mg "BadCondition" = some (.ref (He.ga K "BadCondition"))
  g_BadSum : GV mg "BadSum" (.ref (He.ga K "BadSum"))
  m_BadSum : mg "BadSum" = some (.ref (He.ga K "BadSum"))
  g_Condition : GV mg "Condition" (.ref (He.ga K "Condition"))
  m_Condition : mg "Condition" = some (.ref (He.ga K "Condition"))
  g_NowlaterError : GV mg "NowlaterError" (.ref (He.ga K "NowlaterError"))
  m_NowlaterError : mg "NowlaterError" = some (.ref (He.ga K "NowlaterError"))
  g_Reader : GV mg "Reader" (.ref (He.ga K "Reader"))
  m_Reader : mg "Reader" = some (.ref (He.ga K "Reader"))
  c_Condition : Cls K (He.ga K "Condition")
  a_Condition_parts : NoAttr K (He.ga K "Condition") "parts"
  a_Condition_shown : NoAttr K (He.ga K "Condition") "shown"
  c_Reader : Cls K (He.ga K "Reader")
  a_Reader_tokens : NoAttr K (He.ga K "Reader") "tokens"
  a_Reader_names : NoAttr K (He.ga K "Reader") "names"
  a_Reader_handles : NoAttr K (He.ga K "Reader") "handles"
  a_Reader_requests : NoAttr K (He.ga K "Reader") "requests"
  a_Reader_at : NoAttr K (He.ga K "Reader") "at"
  x_exm : PySem.W.exmOne K (.ref (He.ga K "BadCondition")) (.ref (He.ga K "NowlaterError")) = some true
  x_k1 : PySem.W.kitOne K (.ref (He.ga K "BadCondition")) (.ref (He.ga K "BadCondition")) = some true
  x_k2 : PySem.W.kitOne K (.ref (He.ga K "BadCondition")) (.ref (He.ga K "BadSum")) = some false
  x_k3 : PySem.W.kitOne K (.ref (He.ga K "BadCondition")) (.type "ValueError") = some true
  x_c : ExcC K (He.ga K "BadCondition")
  x_f : XfC K (He.ga K "BadCondition")
  x_no : PySem.W.findIn K (.ref (He.ga K "BadCondition")) "at" = some none
abbrev s_law_seed : Stmt := (top 15)
theorem sc_law_seed : FnScope ["_law_script", "_law_at", "_law_cell", "_law_mixed", "_law_k", "_law_each"] ["_law_script", "_law_at"] (defScope s_law_seed) := ⟨rfl, rfl, rfl, by decide +kernel, rfl, by decide +kernel, by decide +kernel⟩
abbrev s_law_take : Stmt := (top 16)
theorem sc_law_take : FnScope ["_law_bag", "_law_many", "_law_digit"] ["_law_bag", "_law_many"] (defScope s_law_take) := ⟨rfl, rfl, rfl, by decide +kernel, rfl, by decide +kernel, by decide +kernel⟩
abbrev s_law_of : Stmt := (top 17)
theorem sc_law_of : FnScope ["_law_bag", "_law_some"] ["_law_bag", "_law_some"] (defScope s_law_of) := ⟨rfl, rfl, rfl, by decide +kernel, rfl, by decide +kernel, by decide +kernel⟩
abbrev s_is_number : Stmt := (top 7)
theorem sc_is_number : FnScope ["token", "char"] ["token"] (defScope s_is_number) := ⟨rfl, rfl, rfl, by decide +kernel, rfl, by decide +kernel, by decide +kernel⟩
abbrev s_read_sum : Stmt := (top 9)
theorem sc_read_sum : FnScope ["tokens", "start", "names", "terms", "factor", "at", "token"] ["tokens", "start", "names"] (defScope s_read_sum) := ⟨rfl, rfl, rfl, by decide +kernel, rfl, by decide +kernel, by decide +kernel⟩
abbrev s_law_names : Stmt := (top 18)
theorem sc_law_names : FnScope ["_law_bag", "_law_many", "_law_first", "_law_names_here", "_law_k", "_law_letters", "_law_turn"] ["_law_bag", "_law_many"] (defScope s_law_names) := ⟨rfl, rfl, rfl, by decide +kernel, rfl, by decide +kernel, by decide +kernel⟩
abbrev s_Reader_peek : Stmt := (inClass (top 10) 1)
theorem sc_Reader_peek : FnScope ["self"] ["self"] (defScope s_Reader_peek) := ⟨rfl, rfl, rfl, by decide +kernel, rfl, by decide +kernel, by decide +kernel⟩
abbrev s_Reader_take : Stmt := (inClass (top 10) 2)
theorem sc_Reader_take : FnScope ["self", "allowed", "token"] ["self", "allowed"] (defScope s_Reader_take) := ⟨rfl, rfl, rfl, by decide +kernel, rfl, by decide +kernel, by decide +kernel⟩
abbrev s_Reader_sum_terms : Stmt := (inClass (top 10) 6)
theorem sc_Reader_sum_terms : FnScope ["self", "terms", "stop"] ["self"] (defScope s_Reader_sum_terms) := ⟨rfl, rfl, rfl, by decide +kernel, rfl, by decide +kernel, by decide +kernel⟩
abbrev s_Reader_read_atom : Stmt := (inClass (top 10) 5)
theorem sc_Reader_read_atom : FnScope ["self", "wanted", "word", "left", "sign"] ["self"] (defScope s_Reader_read_atom) := ⟨rfl, rfl, rfl, by decide +kernel, rfl, by decide +kernel, by decide +kernel⟩
abbrev s_Reader_read_part : Stmt := (inClass (top 10) 4)
theorem sc_Reader_read_part : FnScope ["self", "atoms"] ["self"] (defScope s_Reader_read_part) := ⟨rfl, rfl, rfl, by decide +kernel, rfl, by decide +kernel, by decide +kernel⟩
abbrev s_Reader_read_condition : Stmt := (inClass (top 10) 3)
theorem sc_Reader_read_condition : FnScope ["self", "parts"] ["self"] (defScope s_Reader_read_condition) := ⟨rfl, rfl, rfl, by decide +kernel, rfl, by decide +kernel, by decide +kernel⟩
abbrev s_Reader___init__ : Stmt := (inClass (top 10) 0)
theorem sc_Reader___init__ : FnScope ["self", "tokens", "names", "handles", "requests"] ["self", "tokens", "names", "handles", "requests"] (defScope s_Reader___init__) := ⟨rfl, rfl, rfl, by decide +kernel, rfl, by decide +kernel, by decide +kernel⟩
abbrev s_Condition___init__ : Stmt := (inClass (top 11) 0)
theorem sc_Condition___init__ : FnScope ["self", "text", "names", "handles", "requests", "tokens", "reader"] ["self", "text", "names", "handles", "requests"] (defScope s_Condition___init__) := ⟨rfl, rfl, rfl, by decide +kernel, rfl, by decide +kernel, by decide +kernel⟩
abbrev s_law_terms : Stmt := (top 19)
theorem sc_law_terms : FnScope ["_law_bag", "_law_names_here", "_law_many", "_law_terms_here", "_law_turn", "_law_thing"] ["_law_bag", "_law_names_here", "_law_many"] (defScope s_law_terms) := ⟨rfl, rfl, rfl, by decide +kernel, rfl, by decide +kernel, by decide +kernel⟩
abbrev s_law_sum_text : Stmt := (top 20)
theorem sc_law_sum_text : FnScope ["_law_terms_here", "_law_k", "_law_sign", "_law_thing"] ["_law_terms_here"] (defScope s_law_sum_text) := ⟨rfl, rfl, rfl, by decide +kernel, rfl, by decide +kernel, by decide +kernel⟩
abbrev s_law_atom : Stmt := (top 22)
theorem sc_law_atom : FnScope ["_law_bag", "_law_names_here", "_law_handles", "_law_requests", "_law_word", "_law_nots", "_law_sign"] ["_law_bag", "_law_names_here", "_law_handles", "_law_requests"] (defScope s_law_atom) := ⟨rfl, rfl, rfl, by decide +kernel, rfl, by decide +kernel, by decide +kernel⟩
abbrev s_law_condition : Stmt := (top 23)
theorem sc_law_condition : FnScope ["_law_bag", "_law_names_here", "_law_handles", "_law_requests", "_law_most", "_law_parts", "_law_turn", "_law_each"] ["_law_bag", "_law_names_here", "_law_handles", "_law_requests", "_law_most"] (defScope s_law_condition) := ⟨rfl, rfl, rfl, by decide +kernel, rfl, by decide +kernel, by decide +kernel⟩
abbrev s_law_atom_text : Stmt := (top 24)
theorem sc_law_atom_text : FnScope ["_law_atom_here", "_law_nots", "_law_word", "_law_left", "_law_right"] ["_law_atom_here"] (defScope s_law_atom_text) := ⟨rfl, rfl, rfl, by decide +kernel, rfl, by decide +kernel, by decide +kernel⟩
abbrev s_law_condition_text : Stmt := (top 25)
theorem sc_law_condition_text : FnScope ["_law_parts", "_law_part", "_law_atom_here"] ["_law_parts"] (defScope s_law_condition_text) := ⟨rfl, rfl, rfl, by decide +kernel, rfl, by decide +kernel, by decide +kernel⟩
abbrev s_law_is_number : Stmt := (top 29)
theorem sc_law_is_number : FnScope ["_law_token", "_law_sign"] ["_law_token"] (defScope s_law_is_number) := ⟨rfl, rfl, rfl, by decide +kernel, rfl, by decide +kernel, by decide +kernel⟩
abbrev s_law_next : Stmt := (top 30)
theorem sc_law_next : FnScope ["_law_token", "_law_place", "_law_count", "_law_words", "_law_names_here", "_law_handle", "_law_request", "_law_is_term", "_law_signs", "_law_begins"] ["_law_token", "_law_place", "_law_count", "_law_words"] (defScope s_law_next) := ⟨rfl, rfl, rfl, by decide +kernel, rfl, by decide +kernel, by decide +kernel⟩
abbrev s_law_wrong : Stmt := (top 31)
theorem sc_law_wrong : FnScope ["_law_tokens", "_law_words", "_law_place", "_law_count", "_law_at", "_law_token"] ["_law_tokens", "_law_words"] (defScope s_law_wrong) := ⟨rfl, rfl, rfl, by decide +kernel, rfl, by decide +kernel, by decide +kernel⟩
abbrev s_law_told : Stmt := (top 33)
theorem sc_law_told : FnScope ["_law_text", "_law_words", "_law_lists", "_law_name", "e"] ["_law_text", "_law_words"] (defScope s_law_told) := ⟨rfl, rfl, rfl, by decide +kernel, rfl, by decide +kernel, by decide +kernel⟩
abbrev s_law_spoiled : Stmt := (top 32)
theorem sc_law_spoiled : FnScope ["_law_bag", "_law_tokens", "_law_words", "_law_odd", "_law_token", "_law_at", "_law_kind"] ["_law_bag", "_law_tokens", "_law_words"] (defScope s_law_spoiled) := ⟨rfl, rfl, rfl, by decide +kernel, rfl, by decide +kernel, by decide +kernel⟩
abbrev s_law : Stmt := (top 34)
theorem sc_law : FnScope ["_law_script", "_law_at", "_law_bag", "_law_drawn", "_law_words", "_law_parts", "_law_tokens", "_law_turn", "_law_many", "_law_each", "_law_told_here", "_law_begin"] ["_law_script"] (defScope s_law) := ⟨rfl, rfl, rfl, by decide +kernel, rfl, by decide +kernel, by decide +kernel⟩
abbrev s_BadCondition___init__ : Stmt := (inClass (top 3) 0)
theorem sc_BadCondition___init__ : FnScope ["self", "at"] ["self", "at"] (defScope s_BadCondition___init__) := ⟨rfl, rfl, rfl, by decide +kernel, rfl, by decide +kernel, by decide +kernel⟩

/-- a token: signs from ! to ~, at least one -/
def Tk (t : Str) : Prop := t.cps.toList ≠ [] ∧ ∀ c ∈ t.cps.toList, 33 ≤ c ∧ c ≤ 126
def Bl (s : Str) : Prop := ∀ c ∈ s.cps.toList, c = 32
theorem sp_no : ∀ c : Nat, c ≤ 126 → 33 ≤ c → Unicode.isSpace c = false := by decide +kernel
theorem sp_yes : Unicode.isSpace 32 = true := by decide +kernel
theorem str_eq {a b : Str} (h : a.cps.toList = b.cps.toList) : a = b := Str.ext' (Array.toList_inj.mp h)
theorem scan_tok : ∀ (l : List Nat) (ws : List Str) (r : Str), (∀ c ∈ l, 33 ≤ c ∧ c ≤ 126) → l.foldl KWd.step (ws, r) = (ws, r ++ ⟨l.toArray⟩)
  | [], ws, r, _ => by
    have e : r ++ (⟨#[]⟩ : Str) = r := str_eq (by rw [Str.cps_append]; simp)
    show (ws, r) = (ws, r ++ ⟨#[]⟩)
    rw [e]
  | c :: l, ws, r, h => by
    have hc := h c (List.mem_cons_self ..)
    rw [List.foldl_cons]
    have e : KWd.step (ws, r) c = (ws, r ++ ⟨#[c]⟩) := by
      unfold KWd.step
      rw [if_neg (by rw [sp_no c hc.2 hc.1]; exact Bool.false_ne_true)]
    rw [e, scan_tok l ws _ fun d hd => h d (List.mem_cons_of_mem _ hd)]
    have e2 : r ++ (⟨#[c]⟩ : Str) ++ (⟨l.toArray⟩ : Str) = r ++ (⟨(c :: l).toArray⟩ : Str) := str_eq (by simp [Str.cps_append])
    rw [e2]
theorem scan_bl0 : ∀ (l : List Nat) (ws : List Str), (∀ c ∈ l, c = 32) → l.foldl KWd.step (ws, Str.empty) = (ws, Str.empty)
  | [], ws, _ => rfl
  | c :: l, ws, h => by
    have hc := h c (List.mem_cons_self ..)
    subst hc
    rw [List.foldl_cons]
    have e : KWd.step (ws, Str.empty) 32 = (ws, Str.empty) := by
      unfold KWd.step
      rw [if_pos sp_yes]
      rfl
    rw [e]
    exact scan_bl0 l ws fun d hd => h d (List.mem_cons_of_mem _ hd)
theorem scan_bl1 (l : List Nat) (ws : List Str) (r : Str) (h : ∀ c ∈ l, c = 32) (h0 : l ≠ []) (hr : r.length ≠ 0) : l.foldl KWd.step (ws, r) = (ws ++ [r], Str.empty) := by
  cases l with
  | nil => exact absurd rfl h0
  | cons c l =>
    have hc := h c (List.mem_cons_self ..)
    subst hc
    rw [List.foldl_cons]
    have e : KWd.step (ws, r) 32 = (ws ++ [r], Str.empty) := by
      unfold KWd.step
      rw [if_pos sp_yes, if_neg hr]
    rw [e]
    exact scan_bl0 l _ fun d hd => h d (List.mem_cons_of_mem _ hd)
theorem tk_len {t : Str} (h : Tk t) : t.length ≠ 0 := by
  intro z
  apply h.1
  have : t.cps.size = 0 := z
  simpa using this
theorem empty_app (t : Str) : Str.empty ++ t = t := str_eq (by rw [Str.cps_append]; simp [Str.empty])
theorem join_cons2 (sep x y : Str) (r : List Str) : Str.join sep (x :: y :: r) = x ++ sep ++ Str.join sep (y :: r) := rfl
theorem scan_join (sep tail : Str) (hs : Bl sep) (hs0 : sep.cps.toList ≠ []) (ht : Bl tail) : ∀ (toks ws : List Str), (∀ t ∈ toks, Tk t) → KWd.fin ((Str.join sep toks ++ tail).cps.toList.foldl KWd.step (ws, Str.empty)) = ws ++ toks
  | [], ws, _ => by
    have e : (Str.join sep [] ++ tail).cps.toList = tail.cps.toList := by
      rw [show Str.join sep [] = Str.empty from rfl, empty_app]
    rw [e, scan_bl0 _ ws ht]
    show (if Str.empty.length = 0 then ws else _) = _
    rw [if_pos (show Str.empty.length = 0 from rfl), List.append_nil]
  | [x], ws, h => by
    have hx := h x (List.mem_cons_self ..)
    rw [show Str.join sep [x] = x from rfl, Str.cps_append, Array.toList_append, List.foldl_append, scan_tok _ ws _ hx.2]
    have e : Str.empty ++ (⟨x.cps.toList.toArray⟩ : Str) = x := by rw [empty_app]
    rw [e]
    by_cases h0 : tail.cps.toList = []
    · rw [h0]
      show (if x.length = 0 then ws else ws ++ [x]) = _
      rw [if_neg (tk_len hx)]
    · rw [scan_bl1 _ ws x ht h0 (tk_len hx)]
      show (if Str.empty.length = 0 then _ else _) = _
      rw [if_pos (show Str.empty.length = 0 from rfl)]
  | x :: y :: r, ws, h => by
    have hx := h x (List.mem_cons_self ..)
    rw [join_cons2]
    have e1 : (x ++ sep ++ Str.join sep (y :: r) ++ tail).cps.toList = x.cps.toList ++ (sep.cps.toList ++ (Str.join sep (y :: r) ++ tail).cps.toList) := by
      simp [Str.cps_append]
    rw [e1, List.foldl_append, scan_tok _ ws _ hx.2, List.foldl_append]
    have e : Str.empty ++ (⟨x.cps.toList.toArray⟩ : Str) = x := by rw [empty_app]
    rw [e, scan_bl1 _ ws x hs hs0 (tk_len hx), scan_join sep tail hs hs0 ht (y :: r) (ws ++ [x]) fun t ht' => h t (List.mem_cons_of_mem _ ht')]
    simp
theorem words_join {head sep tail : Str} {toks : List Str} (hh : Bl head) (hs : Bl sep) (hs0 : sep.cps.toList ≠ []) (ht : Bl tail) (h : ∀ t ∈ toks, Tk t) : Txt.words (head ++ (Str.join sep toks ++ tail)) = toks := by
  rw [KWd.words_scan]
  unfold KWd.scan
  rw [Str.cps_append, Array.toList_append, List.foldl_append, scan_bl0 _ [] hh, scan_join sep tail hs hs0 ht toks [] h, List.nil_append]
theorem words_join0 {sep tail : Str} {toks : List Str} (hs : Bl sep) (hs0 : sep.cps.toList ≠ []) (ht : Bl tail) (h : ∀ t ∈ toks, Tk t) : Txt.words (Str.join sep toks ++ tail) = toks := by
  have := words_join (head := Str.empty) (by intro c hc; simp [Str.empty] at hc) hs hs0 ht h
  rwa [empty_app] at this
theorem join_len_le (sep : Str) (B : Nat) : ∀ (toks : List Str), (∀ t ∈ toks, t.length ≤ B) → (Str.join sep toks).length ≤ toks.length * (B + sep.length)
  | [], _ => by show 0 ≤ _; omega
  | [x], h => by
    have := h x (List.mem_cons_self ..)
    show x.length ≤ 1 * _
    omega
  | x :: y :: r, h => by
    have h1 := h x (List.mem_cons_self ..)
    have h2 := join_len_le sep B (y :: r) fun t ht => h t (List.mem_cons_of_mem _ ht)
    rw [join_cons2, Str.length_append, Str.length_append]
    have e : (x :: y :: r).length * (B + sep.length) = (y :: r).length * (B + sep.length) + (B + sep.length) := by
      rw [List.length_cons, Nat.add_mul, Nat.one_mul]
    omega
theorem sum_len_le {B : Nat} : ∀ {toks : List Str}, (∀ t ∈ toks, t.length ≤ B) → (toks.map (·.length)).sum ≤ toks.length * B
  | [], _ => by simp
  | x :: r, h => by
    have h1 := h x (List.mem_cons_self ..)
    have h2 := sum_len_le (toks := r) fun t ht => h t (List.mem_cons_of_mem _ ht)
    simp only [List.map_cons, List.sum_cons, List.length_cons, Nat.add_mul, Nat.one_mul]
    omega


theorem atI_mem {xs : List V} {i : Int} (h0 : 0 ≤ i) (h1 : i < xs.length) : ∃ v ∈ xs, atI xs i = some v := by
  have hl : i.toNat < xs.length := by omega
  refine ⟨xs[i.toNat], List.getElem_mem hl, ?_⟩
  unfold atI ixN
  rw [if_pos h0, if_pos h1, Option.bind_some, List.getElem?_eq_getElem hl]
theorem atI_int {ns : List Int} {i : Int} (h0 : 0 ≤ i) (h1 : i < (ns.map V.int).length) : ∃ n : Int, atI (ns.map V.int) i = some (.int n) := by
  obtain ⟨v, hv, e⟩ := atI_mem h0 h1
  obtain ⟨n, _, rfl⟩ := List.mem_map.mp hv
  exact ⟨n, e⟩
theorem cutV_mem {xs : List V} {lo hi : Option Int} {v : V} (h : v ∈ cutV xs lo hi) : v ∈ xs := List.mem_of_mem_drop (List.mem_of_mem_take h)
theorem log2_small {n : Nat} (h : n < 2 ^ 9000) (h0 : 0 < n) : n.log2 < 9000 := (Nat.log2_lt (by omega)).mpr h

def sp_law_seed (K : PySem.W.Frag) : Sp := fun vs H Q _ => ∃ (a : Addr) (ns : List Int) (n : Int), vs = [.ref a, .int n] ∧ SqL K H a (ns.map V.int) ∧ 0 ≤ n ∧
  ∀ (p : Addr) (H' : Hp), Same H H' → H p = none → Bag H' p → Q (.ref p) H'
def sp_law_take (K : PySem.W.Frag) : Sp := fun vs H Q _ => ∃ (b : Addr) (many : Int), vs = [.ref b, .int many] ∧ Bag H b ∧ 0 < many ∧ many < 2 ^ 200 ∧
  ∀ (d : Int) (H' : Hp), 0 ≤ d → d < many → Sx [b] H H' → Bag H' b → Q (.int d) H'
def sp_law_of (K : PySem.W.Frag) : Sp := fun vs H Q _ => ∃ (b p : Addr) (xs : List V), vs = [.ref b, .ref p] ∧ Bag H b ∧ H p = some (.lst xs) ∧ p ≠ b ∧ 0 < xs.length ∧ xs.length < 2 ^ 60 ∧
  ∀ (v : V) (H' : Hp), v ∈ xs → Sx [b] H H' → Bag H' b → Q v H'

section
variable {K : PySem.W.Frag} {W : List Addr} {H : Hp} {Q : VK} {E : XK} {b p a : Addr}
theorem call_seed {ns : List Int} {n : Int} (hS : SqL K H a (ns.map V.int)) (h0 : 0 ≤ n) (k : ∀ b H', H b = none → Ed [] H H' → Bag H' b → Q (.ref b) H') : sp_law_seed K [.ref a, .int n] H Q E :=
  ⟨a, ns, n, rfl, hS, h0, fun p H' s hp hb => k p H' hp (Ed.same s) hb⟩
theorem call_take {many : Int} (hb : Bag H b) (h1 : 0 < many) (h2 : many < 2 ^ 200) (k : ∀ d H', 0 ≤ d → d < many → Ed [b] H H' → Bag H' b → Q (.int d) H') : sp_law_take K [.ref b, .int many] H Q E :=
  ⟨b, many, rfl, hb, h1, h2, fun d H' d0 d1 s hb' => k d H' d0 d1 (Ed.sx s fun a z => by rw [List.mem_singleton.mp z]; exact hb'.alive) hb'⟩
theorem call_of {ds : List PyData} (hb : Bag H b) (h : Df W H (.ref p) (.list ds)) (hW : b ∈ W) (h1 : 0 < ds.length) (h2 : ds.length < 2 ^ 60) (k : ∀ v d H', d ∈ ds → Ed [b] H H' → Bag H' b → Df W H' v d → Q v H') : sp_law_of K [.ref b, .ref p] H Q E := by
  obtain ⟨xs, n, hp, r⟩ := h.cells
  refine ⟨b, p, xs, rfl, hb, hp, fun z => n (z ▸ hW), by rw [r.length]; exact h1, by rw [r.length]; exact h2, fun v H' hv s hb' => ?_⟩
  obtain ⟨i, hi, e⟩ := List.mem_iff_getElem.mp hv
  obtain ⟨d, e1, e2⟩ := r.at' (i := i) (v := v) (by rw [List.getElem?_eq_getElem hi, e])
  have ee : Ed [b] H H' := Ed.sx s fun a z => by rw [List.mem_singleton.mp z]; exact hb'.alive
  exact k v d H' (List.mem_of_getElem? e1) ee hb' (e2.ed ee (sub1 hW))
theorem call_ofC {ds : List PyData} (hb : Bag H b) (h : Df W H (.ref p) (.list ds)) (hW : b ∈ W) (k : ∀ v d H', d ∈ ds → Ed [b] H H' → Bag H' b → Df W H' v d → Q v H') (h1 : (Nat.ble 1 ds.length && Nat.ble ds.length 1000) = true := by rfl) : sp_law_of K [.ref b, .ref p] H Q E := by
  rw [Bool.and_eq_true] at h1
  have h2 := Nat.le_of_ble_eq_true h1.1
  have h3 := Nat.le_of_ble_eq_true h1.2
  exact call_of hb h hW (by omega) (by omega) k
end
theorem filter_yes {α : Type} {l : List α} {f : α → Bool} {i : Nat} {x : α} (h : l[i]? = some x) (hf : f x = true) : (l.take (i + 1)).filter f = (l.take i).filter f ++ [x] := by
  rw [List.take_succ, h]; simp [hf]
theorem filter_no {α : Type} {l : List α} {f : α → Bool} {i : Nat} {x : α} (h : l[i]? = some x) (hf : f x = false) : (l.take (i + 1)).filter f = (l.take i).filter f := by
  rw [List.take_succ, h]; simp [hf]
theorem take_snoc {α β : Type} {l : List α} {f : α → β} {i : Nat} {x : α} (h : l[i]? = some x) : (l.take (i + 1)).map f = (l.take i).map f ++ [f x] := by
  rw [List.take_succ, h]; simp
theorem take_all {α β : Type} {l : List α} {f : α → β} {n : Nat} (h : n = (l.map f).length) : l.take n = l := List.take_of_length_le (by rw [h, List.length_map]; exact Nat.le_refl _)
theorem at_map {α β : Type} {l : List α} {f : α → β} {i : Nat} {d : β} (h : (l.map f)[i]? = some d) : ∃ x, l[i]? = some x ∧ d = f x := by
  rw [List.getElem?_map] at h
  cases e : l[i]? with
  | none => rw [e] at h; cases h
  | some x => rw [e] at h; cases h; exact ⟨x, rfl, rfl⟩


def digs : Str := "0123456789"
def isNum (t : Str) : Bool := !(decide (t = "") || decide (3 < (t.length : Int))) && (t.cps.toList.all fun c => decide (c ∈ digs.cps.toList)) && (decide (t = "0") || !decide ((⟨#[t.cps.toList.headD 0]⟩ : Str) = "0"))
theorem atI_zero {l : List Nat} (h : l ≠ []) : atI l 0 = some (l.headD 0) := by
  cases l with
  | nil => exact absurd rfl h
  | cons a r =>
    have h1 : (0 : Int) < ((a :: r).length : Int) := by rw [List.length_cons]; omega
    unfold atI ixN
    rw [if_pos (Int.le_refl 0), if_pos h1]
    rfl
theorem all_take_succ {l : List Nat} {i : Nat} {c : Nat} {f : Nat → Bool} (h : l[i]? = some c) (hc : f c = true) (ha : (l.take i).all f = true) : (l.take (i + 1)).all f = true := by
  rw [List.take_succ, h, List.all_append, ha]
  simp [hc]
theorem all_no {l : List Nat} {i : Nat} {c : Nat} {f : Nat → Bool} (h : l[i]? = some c) (hc : f c = false) : l.all f = false := by
  rw [List.all_eq_false]
  exact ⟨c, List.mem_of_getElem? h, by simp [hc]⟩
theorem nil_of_ne {t : Str} (h : ¬ t = "") : t.cps.toList ≠ [] := fun z => h (str_eq z)

def sp_is_number (K : PySem.W.Frag) : Sp := fun vs H Q _ => ∃ t : Str, vs = [.str t] ∧ t.length ≤ 10000 ∧ Q (.bl (isNum t)) H

inductive Tm where
  | num (n : Int) | nam (s : Str)
def Tm.v : Tm → V
  | .num n => .int n
  | .nam s => .str s
abbrev Terms := List (Int × Tm)
def numVal (t : Str) : Int := (PySem.intText? t).getD 0
def termOf (names : List Str) (t : Str) : Option Tm := if t ∈ names then some (.nam t) else if isNum t = true then some (.num (numVal t)) else none
def signOf (t : Str) : Int := if t = "+" then 1 else -1
def isOp (t : Str) : Bool := decide (t = "+" ∨ t = "-")
/-- read_sum: the terms (none where no sum stands) and the index behind -/
def readS (names toks : List Str) : Nat → Nat → Int → Terms → Option Terms × Nat
  | 0, at_, _, _ => (none, at_)
  | n + 1, at_, f, acc => match termOf names (toks.getD at_ "") with
    | none => (none, at_)
    | some t => if toks.length ≤ at_ + 1 ∨ isOp (toks.getD (at_ + 1) "") = false ∨ acc.length + 1 = 5 then (some (acc ++ [(f, t)]), at_ + 1)
      else readS names toks n (at_ + 2) (signOf (toks.getD (at_ + 1) "")) (acc ++ [(f, t)])
def TermsAt (H : Hp) (l : Addr) (ts : Terms) : Prop := ∃ as : List Addr, H l = some (.lst (as.map V.ref)) ∧ Paired (fun (a : Addr) (t : Int × Tm) => H a = some (.tup [.int t.1, t.2.v])) as ts
theorem paired_snoc {α β : Type} {F : α → β → Prop} : ∀ {xs : List α} {ys : List β} {x : α} {y : β}, Paired F xs ys → F x y → Paired F (xs ++ [x]) (ys ++ [y])
  | _, _, _, _, .nil, h => .cons h .nil
  | _, _, _, _, .cons r t, h => .cons r (paired_snoc t h)
theorem TermsAt.nil {H : Hp} {l : Addr} : TermsAt (upd H l (.lst [])) l [] := ⟨[], upd_same, .nil⟩
theorem TermsAt.same {H H' : Hp} {l : Addr} {ts : Terms} (h : TermsAt H l ts) (s : Same H H') : TermsAt H' l ts := by
  obtain ⟨as, h1, h2⟩ := h
  exact ⟨as, s _ _ h1, Paired.mapP h2 fun a t e => s _ _ e⟩
theorem TermsAt.snoc {H : Hp} {l a : Addr} {as : List Addr} {ts : Terms} {f : Int} {t : Tm} (h1 : H l = some (.lst (as.map V.ref))) (h2 : Paired (fun (a : Addr) (t : Int × Tm) => H a = some (.tup [.int t.1, t.2.v])) as ts) (ha : H a = none) :
    TermsAt (upd (upd H a (.tup [.int f, t.v])) l (.lst (as.map V.ref ++ [.ref a]))) l (ts ++ [(f, t)]) := by
  have nal : a ≠ l := (ne_of_none h1 ha).symm
  refine ⟨as ++ [a], by rw [upd_same, List.map_append]; rfl, paired_snoc (Paired.mapP h2 fun b u e => ?_) ?_⟩
  · have nbl : b ≠ l := fun z => by rw [z, h1] at e; cases e
    rw [upd_ne nbl, upd_ne (ne_of_none e ha)]; exact e
  · rw [upd_ne nal, upd_same]
theorem digs_list : digs.cps.toList = [48, 49, 50, 51, 52, 53, 54, 55, 56, 57] := by decide +kernel
theorem num1 : ∀ a ∈ [48, 49, 50, 51, 52, 53, 54, 55, 56, 57], (PySem.intText? ⟨#[a]⟩).isSome = true := by decide +kernel
theorem num2 : ∀ a ∈ [48, 49, 50, 51, 52, 53, 54, 55, 56, 57], ∀ b ∈ [48, 49, 50, 51, 52, 53, 54, 55, 56, 57], (PySem.intText? ⟨#[a, b]⟩).isSome = true := by decide +kernel
theorem num3 : ∀ a ∈ [48, 49, 50, 51, 52, 53, 54, 55, 56, 57], ∀ b ∈ [48, 49, 50, 51, 52, 53, 54, 55, 56, 57], ∀ c ∈ [48, 49, 50, 51, 52, 53, 54, 55, 56, 57], (PySem.intText? ⟨#[a, b, c]⟩).isSome = true := by decide +kernel
theorem isNum_parts {t : Str} (h : isNum t = true) : t.cps.toList ≠ [] ∧ t.length ≤ 3 ∧ ∀ c ∈ t.cps.toList, c ∈ digs.cps.toList := by
  unfold isNum at h
  simp only [Bool.and_eq_true, Bool.not_eq_true', Bool.or_eq_false_iff, decide_eq_false_iff_not, List.all_eq_true, decide_eq_true_eq] at h
  obtain ⟨⟨⟨h1, h2⟩, h3⟩, _⟩ := h
  exact ⟨nil_of_ne h1, by omega, h3⟩
theorem isNum_int {t : Str} (h : isNum t = true) : PySem.intText? t = some (numVal t) := by
  obtain ⟨h1, h2, h3⟩ := isNum_parts h
  rw [digs_list] at h3
  have hs : (PySem.intText? t).isSome = true := by
    have e : t = ⟨t.cps.toList.toArray⟩ := str_eq rfl
    have hl : t.cps.toList.length ≤ 3 := by simpa [Str.length] using h2
    generalize t.cps.toList = l at *
    subst e
    match l, h1, hl, h3 with
    | [a], _, _, h3 => exact num1 a (h3 a (by simp))
    | [a, b], _, _, h3 => exact num2 a (h3 a (by simp)) b (h3 b (by simp))
    | [a, b, c], _, _, h3 => exact num3 a (h3 a (by simp)) b (h3 b (by simp)) c (h3 c (by simp))
    | _ :: _ :: _ :: _ :: _, _, hl, _ => exact absurd hl (by simp)
  obtain ⟨n, hn⟩ := Option.isSome_iff_exists.mp hs
  unfold numVal
  rw [hn]; rfl
theorem inV_ops {d : Str} : inV (.str d) [.str "+", .str "-"] = isOp d := by
  show inV (.str d) ((["+", "-"] : List Str).map V.str) = _
  rw [inV_str]
  unfold isOp
  simp
/-- how read_sum's answer lies at t -/
def RsAt (H H' : Hp) (t : Addr) (r : Option Terms × Nat) : Prop := match r with
  | (none, n) => H' t = some (.tup [.non, .int (n : Nat)])
  | (some ts, n) => ∃ l, H l = none ∧ H' t = some (.tup [.ref l, .int (n : Nat)]) ∧ TermsAt H' l ts

def sp_read_sum (K : PySem.W.Frag) : Sp := fun vs H Q _ => ∃ (p q : Addr) (toks names : List Str) (s : Nat), vs = [.ref p, .int (s : Nat), .ref q] ∧ SqL K H p (toks.map V.str) ∧ SqL K H q (names.map V.str) ∧ (∀ t ∈ toks, t.length ≤ 10000) ∧
  ∀ (t : Addr) (H' : Hp), Same H H' → H t = none → RsAt H H' t (readS names toks 5 s 1 []) → Q (.ref t) H'

theorem readS_le {names toks : List Str} (hn : ("" : Str) ∉ names) : ∀ (m at_ : Nat) (f : Int) (acc ts : Terms) (n : Nat), readS names toks m at_ f acc = (some ts, n) → n ≤ toks.length
  | 0, at_, f, acc, ts, n, h => by
    have h : (none, at_) = (some ts, n) := h
    cases h
  | m + 1, at_, f, acc, ts, n, h => by
    have hlt : at_ < toks.length := by
      by_cases q : at_ < toks.length
      · exact q
      · exfalso
        unfold readS at h
        have e : toks.getD at_ "" = "" := by rw [List.getD_eq_getElem?_getD, List.getElem?_eq_none (by omega)]; rfl
        have e2 : termOf names "" = none := by
          unfold termOf
          rw [if_neg hn, if_neg (by decide +kernel)]
        rw [e, e2] at h
        cases h
    unfold readS at h
    split at h
    · cases h
    · split at h
      · cases h
        omega
      · exact readS_le hn m _ _ _ ts n h
theorem lens_words {t a : Str} (h : a ∈ Txt.words t) : a.length ≤ t.length := PyProof.Rows.word_short h


def abc : Str := "abcdefghijklmnopqrstuvwxyz"
def abc14 : Str := "bcdfjkmpquwxyz"
theorem abc_at : ∀ d : Nat, d < 26 → abc.cps.toList[d]? = some (97 + d) := by decide +kernel
theorem abc14_len : abc14.cps.toList.length = 14 := by decide +kernel
theorem abc14_at : ∀ d : Nat, d < 14 → ∃ c, abc14.cps.toList[d]? = some c ∧ 97 ≤ c ∧ c ≤ 122 := by
  have h : ∀ d : Nat, d < 14 → (abc14.cps.toList[d]?).any (fun c => decide (97 ≤ c ∧ c ≤ 122)) = true := by decide +kernel
  intro d hd
  have := h d hd
  cases e : abc14.cps.toList[d]? with
  | none => rw [e] at this; cases this
  | some c => rw [e] at this; exact ⟨c, rfl, by simpa using this⟩
theorem atI_abc {d : Int} (h0 : 0 ≤ d) (h1 : d < 26) : atI abc.cps.toList d = some (97 + d.toNat) := by
  have := atI_of (abc_at d.toNat (by omega))
  rwa [show ((d.toNat : Nat) : Int) = d by omega] at this
/-- the i-th name, its first letter by f -/
def Wd (f i : Nat) (t : Str) : Prop := ∃ c r, t.cps.toList = c :: r ∧ abc14.cps.toList[(f + i) % 14]? = some c ∧ r.length ≤ 7 ∧ ∀ d ∈ r, 97 ≤ d ∧ d ≤ 122
def NamesOk (f : Nat) (names : List Str) : Prop := ∀ i t, names[i]? = some t → Wd f i t
theorem Wd.tk {f i : Nat} {t : Str} (h : Wd f i t) : Tk t := by
  obtain ⟨c, r, e, hc, _, hr⟩ := h
  refine ⟨by rw [e]; exact List.cons_ne_nil _ _, fun d hd => ?_⟩
  rw [e] at hd
  rcases List.mem_cons.mp hd with rfl | hd
  · obtain ⟨c', h1, h2⟩ := abc14_at ((f + i) % 14) (Nat.mod_lt _ (by decide))
    rw [hc] at h1; cases h1; omega
  · have := hr d hd; omega
theorem Wd.len {f i : Nat} {t : Str} (h : Wd f i t) : t.length ≤ 8 := by
  obtain ⟨c, r, e, _, hl, _⟩ := h
  have : t.length = t.cps.toList.length := by simp [Str.length]
  rw [this, e, List.length_cons]; omega
theorem NamesOk.mem {f : Nat} {names : List Str} (h : NamesOk f names) {t : Str} (ht : t ∈ names) : ∃ i, Wd f i t := by
  obtain ⟨i, hi, e⟩ := List.mem_iff_getElem.mp ht
  exact ⟨i, h i t (by rw [List.getElem?_eq_getElem hi, e])⟩
theorem NamesOk.tk {f : Nat} {names : List Str} (h : NamesOk f names) {t : Str} (ht : t ∈ names) : Tk t := by
  obtain ⟨i, hi⟩ := h.mem ht
  exact hi.tk
theorem NamesOk.len {f : Nat} {names : List Str} (h : NamesOk f names) {t : Str} (ht : t ∈ names) : t.length ≤ 8 := by
  obtain ⟨i, hi⟩ := h.mem ht
  exact hi.len
theorem NamesOk.nil (f : Nat) : NamesOk f [] := fun i t h => by simp at h
theorem NamesOk.snoc {f : Nat} {names : List Str} {t : Str} (h : NamesOk f names) (ht : Wd f names.length t) : NamesOk f (names ++ [t]) := fun i u hu => by
  rcases Nat.lt_trichotomy i names.length with q | q | q
  · rw [List.getElem?_append_left q] at hu; exact h i u hu
  · subst q
    rw [List.getElem?_append_right (Nat.le_refl _), Nat.sub_self] at hu
    cases hu
    exact ht
  · rw [List.getElem?_append_right (by omega)] at hu
    rw [List.getElem?_eq_none (by simp; omega)] at hu
    cases hu
theorem tk_ne {t : Str} (h : Tk t) : t ≠ "" := fun z => h.1 (by rw [z]; rfl)
theorem NamesOk.no_empty {f : Nat} {names : List Str} (h : NamesOk f names) : ("" : Str) ∉ names := fun z => tk_ne (h.tk z) rfl
/-- small letters, one a text -/
def Lets (ls : List Str) : Prop := ∀ t ∈ ls, ∃ c, t.cps.toList = [c] ∧ 97 ≤ c ∧ c ≤ 122
theorem lets_join : ∀ {ls : List Str}, Lets ls → (Str.join "" ls).cps.toList.length = ls.length ∧ ∀ c ∈ (Str.join "" ls).cps.toList, 97 ≤ c ∧ c ≤ 122
  | [], _ => ⟨rfl, fun c hc => by cases hc⟩
  | [x], h => by
    obtain ⟨c, e, hc⟩ := h x (List.mem_cons_self ..)
    show x.cps.toList.length = 1 ∧ ∀ c ∈ x.cps.toList, _
    rw [e]
    exact ⟨rfl, fun d hd => by simp at hd; subst hd; exact hc⟩
  | x :: y :: r, h => by
    obtain ⟨c, e, hc⟩ := h x (List.mem_cons_self ..)
    obtain ⟨h1, h2⟩ := lets_join (ls := y :: r) fun t ht => h t (List.mem_cons_of_mem _ ht)
    have e2 : (Str.join "" (x :: y :: r)).cps.toList = c :: (Str.join "" (y :: r)).cps.toList := by
      rw [join_cons2, Str.cps_append, Str.cps_append, Array.toList_append, Array.toList_append, e]
      rfl
    rw [e2]
    refine ⟨by rw [List.length_cons, h1]; rfl, fun d hd => ?_⟩
    rcases List.mem_cons.mp hd with rfl | hd
    · exact hc
    · exact h2 d hd
theorem lets_len {ls : List Str} (h : Lets ls) : ∀ t ∈ ls, t.length ≤ 1 := fun t ht => by
  obtain ⟨c, e, _⟩ := h t ht
  have : t.length = t.cps.toList.length := by simp [Str.length]
  rw [this, e]; exact Nat.le_refl _
theorem lets_snoc {ls : List Str} {c : Nat} (h : Lets ls) (h1 : 97 ≤ c) (h2 : c ≤ 122) : Lets (ls ++ [⟨#[c]⟩]) := fun t ht => by
  rcases List.mem_append.mp ht with ht | ht
  · exact h t ht
  · simp at ht; subst ht; exact ⟨c, rfl, h1, h2⟩
theorem bagNe {H : Hp} {b p : Addr} {o : HO} (hb : Bag H b) (hp : H p = some o) (h : ∀ x y, o ≠ .lst [.int x, .int y]) : p ≠ b := by
  rintro rfl
  obtain ⟨x, y, e⟩ := hb
  rw [hp] at e
  cases e
  exact h x y rfl

def sp_law_names (K : PySem.W.Frag) : Sp := fun vs H Q _ => ∃ (b : Addr) (many : Nat), vs = [.ref b, .int (many : Nat)] ∧ Bag H b ∧ many < 1000 ∧
  ∀ (p : Addr) (f : Nat) (names : List Str) (H' : Hp), Sx [b] H H' → Bag H' b → H p = none → H' p = some (.lst (names.map V.str)) → names.length = many → NamesOk f names → Q (.ref p) H'

theorem call_names {K : PySem.W.Frag} {W : List Addr} {H : Hp} {Q : VK} {E : XK} {b : Addr} {many : Nat} {m : Int} (hb : Bag H b) (hw : Wl W H) (hm : many < 1000) (e : m = (many : Nat)) (k : ∀ p f names H', H p = none → Ed [b] H H' → Bag H' b → Df W H' (.ref p) (.list (names.map PyData.str)) → names.length = many → NamesOk f names → Q (.ref p) H') : sp_law_names K [.ref b, .int m] H Q E := by
  subst e
  exact ⟨b, many, rfl, hb, hm, fun p f names H' s hb' hp h l ok => k p f names H' hp (Ed.sx s fun a z => by rw [List.mem_singleton.mp z]; exact hb'.alive) hb' (Df.ofStrs (hw.not hp) h) l ok⟩


/-- the reader at r and its lists -/
structure Rda where
  r : Addr
  dx : Addr
  p : Addr
  q : Addr
  h : Addr
  k : Addr
structure Rdl where
  toks : List Str
  names : List Str
  hs : List Str
  rs : List Str
def rdFs (a : Rda) (n : Nat) : List (Str × V) := [("tokens", .ref a.p), ("names", .ref a.q), ("handles", .ref a.h), ("requests", .ref a.k), ("at", .int (n : Nat))]
def RdAt (K : PySem.W.Frag) (H : Hp) (a : Rda) (l : Rdl) (n : Nat) : Prop := H a.r = some (.ins (He.ga K "Reader") a.dx (rdFs a n)) ∧ H a.p = some (.lst (l.toks.map V.str)) ∧ H a.q = some (.lst (l.names.map V.str)) ∧ H a.h = some (.lst (l.hs.map V.str)) ∧ H a.k = some (.lst (l.rs.map V.str))
def pk (toks : List Str) (n : Nat) : Str := toks.getD n ""
theorem pk_in {toks : List Str} {n : Nat} (h : n < toks.length) : toks[n]? = some (pk toks n) := by
  unfold pk
  rw [List.getD_eq_getElem?_getD, List.getElem?_eq_getElem h]; rfl
theorem pk_out {toks : List Str} {n : Nat} (h : toks.length ≤ n) : pk toks n = "" := by
  unfold pk
  rw [List.getD_eq_getElem?_getD, List.getElem?_eq_none h]; rfl
theorem pk_lt {toks : List Str} {n : Nat} {s : Str} (h : pk toks n = s) (hs : s ≠ "") : n < toks.length := by
  by_cases q : n < toks.length
  · exact q
  · rw [pk_out (by omega)] at h
    exact absurd h.symm hs
theorem put_at {a : Rda} {n m : Nat} {v : Int} (h : v = (m : Nat)) : putF "at" (.int v) (rdFs a n) = rdFs a m := by
  subst h
  unfold rdFs
  rw [putF_ne (by decide +kernel), putF_ne (by decide +kernel), putF_ne (by decide +kernel), putF_ne (by decide +kernel), putF_eq]
theorem RdAt.to {K : PySem.W.Frag} {H H' : Hp} {a : Rda} {l : Rdl} {n m : Nat} (h : RdAt K H a l n) (s : Sx [a.r] H H') (e : H' a.r = some (.ins (He.ga K "Reader") a.dx (rdFs a m))) : RdAt K H' a l m := by
  obtain ⟨h1, h2, h3, h4, h5⟩ := h
  have ne : ∀ {x : Addr} {xs : List V}, H x = some (.lst xs) → x ≠ a.r := fun hx z => by rw [z, h1] at hx; cases hx
  exact ⟨e, s.get1 (ne h2) h2, s.get1 (ne h3) h3, s.get1 (ne h4) h4, s.get1 (ne h5) h5⟩
theorem RdAt.same {K : PySem.W.Frag} {H H' : Hp} {a : Rda} {l : Rdl} {n : Nat} (h : RdAt K H a l n) (s : Same H H') : RdAt K H' a l n := ⟨s _ _ h.1, s _ _ h.2.1, s _ _ h.2.2.1, s _ _ h.2.2.2.1, s _ _ h.2.2.2.2⟩
theorem RdAt.ne {K : PySem.W.Frag} {H : Hp} {a : Rda} {l : Rdl} {n : Nat} (h : RdAt K H a l n) : a.p ≠ a.r ∧ a.q ≠ a.r ∧ a.h ≠ a.r ∧ a.k ≠ a.r := by
  obtain ⟨h1, h2, h3, h4, h5⟩ := h
  have ne : ∀ {x : Addr} {xs : List V}, H x = some (.lst xs) → x ≠ a.r := fun hx z => by rw [z, h1] at hx; cases hx
  exact ⟨ne h2, ne h3, ne h4, ne h5⟩
theorem RdAt.fr {K : PySem.W.Frag} {H H' : Hp} {a : Rda} {l : Rdl} {n : Nat} {p : Addr} (h : RdAt K H' a l n) (s : Sx [a.r] H H') (e : H' p = none) : H p = none := s.free (by simpa using (ne_of_none h.1 e).symm) e
theorem RdAt.step {K : PySem.W.Frag} {H : Hp} {a : Rda} {l : Rdl} {n m : Nat} {v : Int} (h : RdAt K H a l n) (e : v = (m : Nat)) : RdAt K (upd H a.r (.ins (He.ga K "Reader") a.dx (putF "at" (.int v) (rdFs a n)))) a l m :=
  h.to ((Sx.refl H).put (by simp)) (by rw [upd_same, put_at e])
theorem TermsAt.sx {H H' : Hp} {l r C dx : Addr} {fs : List (Str × V)} {ts : Terms} (h : TermsAt H l ts) (s : Sx [r] H H') (hr : H r = some (.ins C dx fs)) : TermsAt H' l ts := by
  obtain ⟨as, h1, h2⟩ := h
  exact ⟨as, s.get1 (fun z => by rw [z, hr] at h1; cases h1) h1, Paired.mapP h2 fun a t e => s.get1 (fun z => by rw [z, hr] at e; cases e) e⟩
theorem RdAt.mut {K : PySem.W.Frag} {H H' : Hp} {a : Rda} {l : Rdl} {n m : Nat} {p : Addr} {o : HO} (h : RdAt K H' a l m) (h0 : RdAt K H a l n) (hp : H p = none) : RdAt K (upd H' p o) a l m := by
  have ne : ∀ {x : Addr} {u : HO}, H x = some u → x ≠ p := fun hx => ne_of_none hx hp
  obtain ⟨h1, h2, h3, h4, h5⟩ := h
  obtain ⟨g1, g2, g3, g4, g5⟩ := h0
  exact ⟨by rw [upd_ne (ne g1)]; exact h1, by rw [upd_ne (ne g2)]; exact h2, by rw [upd_ne (ne g3)]; exact h3, by rw [upd_ne (ne g4)]; exact h4, by rw [upd_ne (ne g5)]; exact h5⟩
theorem sqL_sx {K : PySem.W.Frag} {H H' : Hp} {q r C dx : Addr} {xs : List V} {fs : List (Str × V)} (h : SqL K H q xs) (s : Sx [r] H H') (hr : H r = some (.ins C dx fs)) : SqL K H' q xs := by
  rcases h with h | h
  · rcases h with h | ⟨o, h⟩
    · exact .inl (.inl (s.get1 (fun z => by rw [z, hr] at h; cases h) h))
    · exact .inl (.inr ⟨o, s.get1 (fun z => by rw [z, hr] at h; cases h) h⟩)
  · exact .inr h
theorem Sx.drop1 {b : Addr} {H H1 H2 : Hp} (s : Same H H1) (n : H b = none) (t : Sx [b] H1 H2) : Same H H2 := fun a o e => t a o (by simpa using ne_of_none e n) (s a o e)
def TkL (ts : List Str) : Prop := (∀ t ∈ ts, t.length ≤ 10000) ∧ ts.length ≤ 20000
def takeR (al toks : List Str) (n : Nat) : Except Nat (Str × Nat) := if pk toks n ∈ al then .ok (pk toks n, n + 1) else .error n
def sumR (names toks : List Str) (n : Nat) : Except Nat (Terms × Nat) := match readS names toks 5 n 1 [] with
  | (some ts, m) => .ok (ts, m)
  | (none, m) => .error m

def sp_Reader_peek (K : PySem.W.Frag) : Sp := fun vs H Q _ => ∃ (a : Rda) (l : Rdl) (n : Nat), vs = [.ref a.r] ∧ RdAt K H a l n ∧ Q (.str (pk l.toks n)) H
def sp_Reader_take (K : PySem.W.Frag) : Sp := fun vs H Q E => ∃ (a : Rda) (l : Rdl) (n : Nat) (p : Addr) (al : List Str), vs = [.ref a.r, .ref p] ∧ RdAt K H a l n ∧ (SqL K H p (al.map V.str) ∨ SqT K H p (al.map V.str)) ∧
  (∀ e, takeR al l.toks n = .error e → ∀ d, H d = none → E (.ref (He.ga K "BadCondition")) (some d) (upd H d (.xd [("at", .int (e : Nat))]))) ∧
  (∀ t m, takeR al l.toks n = .ok (t, m) → ∀ H', Sx [a.r] H H' → RdAt K H' a l m → Q (.str t) H')
def sp_Reader_sum_terms (K : PySem.W.Frag) : Sp := fun vs H Q E => ∃ (a : Rda) (l : Rdl) (n : Nat), vs = [.ref a.r] ∧ RdAt K H a l n ∧ (∀ t ∈ l.toks, t.length ≤ 10000) ∧
  (∀ e, sumR l.names l.toks n = .error e → ∀ d H', Sx [a.r] H H' → H' d = some (.xd [("at", .int (e : Nat))]) → E (.ref (He.ga K "BadCondition")) (some d) H') ∧
  (∀ ts m, sumR l.names l.toks n = .ok (ts, m) → ∀ p H', Sx [a.r] H H' → RdAt K H' a l m → H p = none → TermsAt H' p ts → Q (.ref p) H')

inductive Atom where
  | word (b : Bool) (w x : Str)
  | cmp (b : Bool) (s : Str) (l r : Terms)
/-- an atom's tuple at t; F holds of its own lists -/
def AtomAt (F : Addr → Prop) (H : Hp) (t : Addr) : Atom → Prop
  | .word b w x => H t = some (.tup [.bl b, .str w, .str x, .int 0])
  | .cmp b s l r => ∃ p q, H t = some (.tup [.bl b, .str s, .ref p, .ref q]) ∧ F p ∧ F q ∧ TermsAt H p l ∧ TermsAt H q r
theorem TermsAt.go {H H' : Hp} {l : Addr} {ts : Terms} (h : TermsAt H l ts) (ht : ∀ a xs, H a = some (.tup xs) → H' a = some (.tup xs)) (hl : ∀ xs, H l = some (.lst xs) → H' l = some (.lst xs)) : TermsAt H' l ts := by
  obtain ⟨as, h1, h2⟩ := h
  exact ⟨as, hl _ h1, Paired.mapP h2 fun a t e => ht _ _ e⟩
theorem AtomAt.go {F F' : Addr → Prop} {H H' : Hp} {t : Addr} {a : Atom} (h : AtomAt F H t a) (ht : ∀ a xs, H a = some (.tup xs) → H' a = some (.tup xs)) (hl : ∀ a xs, F a → H a = some (.lst xs) → F' a ∧ H' a = some (.lst xs)) : AtomAt F' H' t a := by
  cases a with
  | word b w x => exact ht _ _ h
  | cmp b s l r =>
    obtain ⟨p, q, h1, h2, h3, h4, h5⟩ := h
    obtain ⟨as, e1, _⟩ := id h4
    obtain ⟨bs, e2, _⟩ := id h5
    exact ⟨p, q, ht _ _ h1, (hl _ _ h2 e1).1, (hl _ _ h3 e2).1, h4.go ht fun xs e => (hl _ _ h2 e).2, h5.go ht fun xs e => (hl _ _ h3 e).2⟩
/-- a list at l of things that lie as R says -/
def LsAt {α : Type} (R : (Addr → Prop) → Hp → Addr → α → Prop) (F : Addr → Prop) (H : Hp) (l : Addr) (xs : List α) : Prop := F l ∧ ∃ as : List Addr, H l = some (.lst (as.map V.ref)) ∧ Paired (R F H) as xs
def PartAt := LsAt AtomAt
def PartsAt := LsAt PartAt
/-- what may move: tuples stay, the lists of F stay -/
def Mv (F F' : Addr → Prop) (H H' : Hp) : Prop := (∀ a xs, H a = some (.tup xs) → H' a = some (.tup xs)) ∧ ∀ a xs, F a → H a = some (.lst xs) → F' a ∧ H' a = some (.lst xs)
theorem AtomAt.mv {F F' : Addr → Prop} {H H' : Hp} {t : Addr} {a : Atom} (h : AtomAt F H t a) (m : Mv F F' H H') : AtomAt F' H' t a := h.go m.1 m.2
theorem LsAt.mv {α : Type} {R : (Addr → Prop) → Hp → Addr → α → Prop} {F F' : Addr → Prop} {H H' : Hp} {l : Addr} {xs : List α} (hR : ∀ t a, R F H t a → R F' H' t a) (h : LsAt R F H l xs) (m : Mv F F' H H') : LsAt R F' H' l xs := by
  obtain ⟨h0, as, h1, h2⟩ := h
  exact ⟨(m.2 _ _ h0 h1).1, as, (m.2 _ _ h0 h1).2, Paired.mapP h2 fun a t e => hR a t e⟩
theorem PartAt.mv {F F' : Addr → Prop} {H H' : Hp} {l : Addr} {xs : List Atom} (h : PartAt F H l xs) (m : Mv F F' H H') : PartAt F' H' l xs := LsAt.mv (fun _ _ z => AtomAt.mv z m) h m
theorem PartsAt.mv {F F' : Addr → Prop} {H H' : Hp} {l : Addr} {xs : List (List Atom)} (h : PartsAt F H l xs) (m : Mv F F' H H') : PartsAt F' H' l xs := LsAt.mv (fun _ _ z => PartAt.mv z m) h m
theorem Mv.sx {F : Addr → Prop} {H H' : Hp} {r C dx : Addr} {fs : List (Str × V)} (s : Sx [r] H H') (hr : H r = some (.ins C dx fs)) : Mv F F H H' :=
  ⟨fun a xs e => s.get1 (fun z => by rw [z, hr] at e; cases e) e, fun a xs f e => ⟨f, s.get1 (fun z => by rw [z, hr] at e; cases e) e⟩⟩
theorem Mv.same {F : Addr → Prop} {H H' : Hp} (s : Same H H') : Mv F F H H' := ⟨fun a xs e => s _ _ e, fun a xs f e => ⟨f, s _ _ e⟩⟩
theorem Mv.weak {F F' : Addr → Prop} {H : Hp} (h : ∀ a, H a ≠ none → F a → F' a) : Mv F F' H H := ⟨fun a xs e => e, fun a xs f e => ⟨h a (by rw [e]; exact fun z => nomatch z) f, e⟩⟩
/-- an item more at the list l, which is not of F -/
theorem Mv.put {F : Addr → Prop} {H : Hp} {l : Addr} {xs ys : List V} (h : H l = some (.lst xs)) (n : ¬ F l) : Mv F F H (upd H l (.lst ys)) :=
  ⟨fun a zs e => by rw [upd_ne (fun z => by rw [z, h] at e; cases e)]; exact e, fun a zs f e => ⟨f, by rw [upd_ne (show a ≠ l from fun z => n (by rw [← z]; exact f))]; exact e⟩⟩
theorem Mv.trans {F F' F'' : Addr → Prop} {H H' H'' : Hp} (m : Mv F F' H H') (n : Mv F' F'' H' H'') : Mv F F'' H H'' := ⟨fun a xs e => n.1 _ _ (m.1 _ _ e), fun a xs f e => n.2 _ _ (m.2 _ _ f e).1 (m.2 _ _ f e).2⟩
def nots (toks : List Str) : Nat → Nat → Bool → Nat × Bool
  | 0, n, b => (n, b)
  | f + 1, n, b => if pk toks n = "not" then nots toks f (n + 1) (!b) else (n, b)
def signs6 : List Str := ["=", "!=", "<", "<=", ">", ">="]
def atomB (l : Rdl) (b : Bool) (n : Nat) : Except Nat (Atom × Nat) :=
  if pk l.toks n ∈ (["none", "live"] : List Str) ∧ l.hs ≠ [] then match takeR l.hs l.toks (n + 1) with
    | .ok (x, m) => .ok (.word b (pk l.toks n) x, m)
    | .error e => .error e
  else if pk l.toks n ∈ (["open"] : List Str) ∧ l.rs ≠ [] then match takeR l.rs l.toks (n + 1) with
    | .ok (x, m) => .ok (.word b (pk l.toks n) x, m)
    | .error e => .error e
  else match sumR l.names l.toks n with
    | .error e => .error e
    | .ok (x, m) => match takeR signs6 l.toks m with
      | .error e => .error e
      | .ok (s, m) => match sumR l.names l.toks m with
        | .error e => .error e
        | .ok (y, m) => .ok (.cmp b s x y, m)
def atomR (l : Rdl) (n : Nat) : Except Nat (Atom × Nat) := atomB l (nots l.toks (l.toks.length + 1) n true).2 (nots l.toks (l.toks.length + 1) n true).1
def moreR {α : Type} (sep : Str) (one : Nat → Except Nat (α × Nat)) (toks : List Str) : Nat → List α → Nat → Except Nat (List α × Nat)
  | 0, acc, n => .ok (acc, n)
  | f + 1, acc, n => if pk toks n = sep then match one (n + 1) with
      | .error e => .error e
      | .ok (a, m) => moreR sep one toks f (acc ++ [a]) m
    else .ok (acc, n)
def manyR {α : Type} (sep : Str) (one : Nat → Except Nat (α × Nat)) (toks : List Str) (n : Nat) : Except Nat (List α × Nat) := match one n with
  | .error e => .error e
  | .ok (a, m) => moreR sep one toks (toks.length + 1) [a] m
def partR (l : Rdl) : Nat → Except Nat (List Atom × Nat) := manyR "and" (atomR l) l.toks
def condR (l : Rdl) : Nat → Except Nat (List (List Atom) × Nat) := manyR "or" (partR l) l.toks
/-! reading goes on -/
theorem readS_ge {names toks : List Str} : ∀ (m at_ : Nat) (f : Int) (acc : Terms), at_ ≤ (readS names toks m at_ f acc).2
  | 0, at_, _, _ => Nat.le_refl _
  | m + 1, at_, f, acc => by
    unfold readS
    split
    · exact Nat.le_refl _
    · split
      · exact Nat.le_succ _
      · exact Nat.le_trans (by omega) (readS_ge m (at_ + 2) _ _)
theorem takeR_ge {al toks : List Str} {n m : Nat} {t : Str} (h : takeR al toks n = .ok (t, m)) : n ≤ m := by
  unfold takeR at h
  split at h
  · cases h; omega
  · cases h
theorem sumR_ge {names toks : List Str} {n m : Nat} {ts : Terms} (h : sumR names toks n = .ok (ts, m)) : n ≤ m := by
  have g := readS_ge (names := names) (toks := toks) 5 n 1 []
  unfold sumR at h
  split at h
  · rename_i e
    cases h
    rw [e] at g
    exact g
  · cases h
theorem nots_ge {toks : List Str} : ∀ (f n : Nat) (b : Bool), n ≤ (nots toks f n b).1
  | 0, n, b => Nat.le_refl _
  | f + 1, n, b => by
    unfold nots
    split
    · exact Nat.le_trans (Nat.le_succ _) (nots_ge f (n + 1) _)
    · exact Nat.le_refl _
theorem atomB_ge {l : Rdl} {b : Bool} {n m : Nat} {a : Atom} (h : atomB l b n = .ok (a, m)) : n ≤ m := by
  unfold atomB at h
  split at h
  · split at h
    · rename_i e; cases h; have := takeR_ge e; omega
    · cases h
  · split at h
    · split at h
      · rename_i e; cases h; have := takeR_ge e; omega
      · cases h
    · split at h
      · cases h
      · rename_i e1
        split at h
        · cases h
        · rename_i e2
          split at h
          · cases h
          · rename_i e3
            cases h
            have := sumR_ge e1
            have := takeR_ge e2
            have := sumR_ge e3
            omega
theorem atomR_ge {l : Rdl} {n m : Nat} {a : Atom} (h : atomR l n = .ok (a, m)) : n ≤ m := Nat.le_trans (nots_ge _ _ _) (atomB_ge h)
theorem moreR_ge {α : Type} {sep : Str} {one : Nat → Except Nat (α × Nat)} {toks : List Str} (ho : ∀ n a m, one n = .ok (a, m) → n ≤ m) : ∀ (f : Nat) (acc : List α) (n : Nat) (r : List α) (m : Nat), moreR sep one toks f acc n = .ok (r, m) → n ≤ m
  | 0, acc, n, r, m, h => by
    have h : Except.ok (acc, n) = Except.ok (r, m) := h
    cases h; exact Nat.le_refl _
  | f + 1, acc, n, r, m, h => by
    unfold moreR at h
    split at h
    · split at h
      · cases h
      · rename_i e
        have := ho _ _ _ e
        have := moreR_ge ho f _ _ _ _ h
        omega
    · cases h; exact Nat.le_refl _
theorem partR_ge {l : Rdl} {n m : Nat} {a : List Atom} (h : partR l n = .ok (a, m)) : n ≤ m := by
  unfold partR manyR at h
  split at h
  · cases h
  · rename_i e
    have := atomR_ge e
    have := moreR_ge (fun n a m => atomR_ge) _ _ _ _ _ h
    omega

def sp_Reader_read_atom (K : PySem.W.Frag) : Sp := fun vs H Q E => ∃ (a : Rda) (l : Rdl) (n : Nat), vs = [.ref a.r] ∧ RdAt K H a l n ∧ (∀ t ∈ l.toks, t.length ≤ 10000) ∧
  (∀ e, atomR l n = .error e → ∀ d H', Sx [a.r] H H' → H' d = some (.xd [("at", .int (e : Nat))]) → E (.ref (He.ga K "BadCondition")) (some d) H') ∧
  (∀ x m, atomR l n = .ok (x, m) → ∀ t H', Sx [a.r] H H' → RdAt K H' a l m → H t = none → AtomAt (fun a => H a = none) H' t x → Q (.ref t) H')
def sp_Reader_read_part (K : PySem.W.Frag) : Sp := fun vs H Q E => ∃ (a : Rda) (l : Rdl) (n : Nat), vs = [.ref a.r] ∧ RdAt K H a l n ∧ TkL l.toks ∧
  (∀ e, partR l n = .error e → ∀ d H', Sx [a.r] H H' → H' d = some (.xd [("at", .int (e : Nat))]) → E (.ref (He.ga K "BadCondition")) (some d) H') ∧
  (∀ x m, partR l n = .ok (x, m) → ∀ t H', Sx [a.r] H H' → RdAt K H' a l m → H t = none → PartAt (fun a => H a = none) H' t x → Q (.ref t) H')
def sp_Reader_read_condition (K : PySem.W.Frag) : Sp := fun vs H Q E => ∃ (a : Rda) (l : Rdl) (n : Nat), vs = [.ref a.r] ∧ RdAt K H a l n ∧ TkL l.toks ∧
  (∀ e, condR l n = .error e → ∀ d H', Sx [a.r] H H' → H' d = some (.xd [("at", .int (e : Nat))]) → E (.ref (He.ga K "BadCondition")) (some d) H') ∧
  (∀ x m, condR l n = .ok (x, m) → ∀ t H', Sx [a.r] H H' → RdAt K H' a l m → H t = none → PartsAt (fun a => H a = none) H' t x → Q (.ref t) H')
def sp_Reader___init__ (K : PySem.W.Frag) : Sp := fun vs H Q _ => ∃ (x dx p q h k : Addr) (l : Rdl), vs = [.ref x, .ref p, .ref q, .ref h, .ref k] ∧ H x = some (.ins (He.ga K "Reader") dx []) ∧ H p = some (.lst (l.toks.map V.str)) ∧ SqL K H q (l.names.map V.str) ∧ SqL K H h (l.hs.map V.str) ∧ SqL K H k (l.rs.map V.str) ∧
  ∀ (a : Rda) (H' : Hp), a.r = x → a.p = p → Sx [x] H H' → RdAt K H' a l 0 → Q .non H'

def CondAt (K : PySem.W.Frag) (F : Addr → Prop) (H : Hp) (x : Addr) (ps : List (List Atom)) (shown : Str) : Prop := ∃ dx l, H x = some (.ins (He.ga K "Condition") dx [("parts", .ref l), ("shown", .str shown)]) ∧ PartsAt F H l ps
def initC (l : Rdl) : Except Nat (List (List Atom)) := match condR l 0 with
  | .error e => .error e
  | .ok (ps, m) => if m < l.toks.length then .error m else .ok ps
theorem words_many {t : Str} : (Txt.words t).length ≤ t.length + 1 := by
  have := StrLaws.words_weight t
  omega

def sp_Condition___init__ (K : PySem.W.Frag) : Sp := fun vs H Q E => ∃ (x dx q h k : Addr) (text : Str) (l : Rdl), vs = [.ref x, .str text, .ref q, .ref h, .ref k] ∧ H x = some (.ins (He.ga K "Condition") dx []) ∧ SqL K H q (l.names.map V.str) ∧ SqL K H h (l.hs.map V.str) ∧ SqL K H k (l.rs.map V.str) ∧ l.toks = Txt.words text ∧ text.length ≤ 10000 ∧
  (∀ e, initC l = .error e → ∀ d H', Sx [x] H H' → H' d = some (.xd [("at", .int (e : Nat))]) → E (.ref (He.ga K "BadCondition")) (some d) H') ∧
  (∀ ps, initC l = .ok ps → ∀ H', Sx [x] H H' → CondAt K (fun a => H a = none) H' x ps (Txt.join " " l.toks) → Q .non H')

/-! ### what is written is read: sums, atoms, parts, conditions -/
def numT (n : Int) : Str := (toString n : String)
def Tm.tok : Tm → Str
  | .num n => numT n
  | .nam s => s
def opT (f : Int) : Str := if f = 1 then "+" else "-"
def restT (ts : Terms) : List Str := ts.flatMap fun t => [opT t.1, t.2.tok]
def sumT : Terms → List Str
  | [] => []
  | t :: r => t.2.tok :: restT r
/-- a term that is read as it is written -/
def TmOk (names : List Str) (t : Tm) : Prop := termOf names t.tok = some t
def TsOk (names : List Str) (ts : Terms) : Prop := ts ≠ [] ∧ ts.length ≤ 5 ∧ (∀ t ∈ ts, TmOk names t.2 ∧ (t.1 = 1 ∨ t.1 = -1)) ∧ ∀ t ∈ ts.head?, t.1 = 1
theorem getD_drop {toks xs : List Str} {n : Nat} (h : toks.drop n = xs) (k : Nat) : toks.getD (n + k) "" = xs.getD k "" := by
  subst h
  rw [List.getD_eq_getElem?_getD, List.getD_eq_getElem?_getD, List.getElem?_drop]
theorem pk_drop {toks xs : List Str} {n : Nat} (h : toks.drop n = xs) : pk toks n = xs.headD "" := by
  have := getD_drop h 0
  unfold pk
  rw [Nat.add_zero] at this
  rw [this]
  cases xs <;> rfl
theorem drop_app {toks a b : List Str} {n : Nat} (h : toks.drop n = a ++ b) : toks.drop (n + a.length) = b := by
  rw [← List.drop_drop, h, List.drop_left]
theorem drop_cons {toks b : List Str} {n : Nat} {x : Str} (h : toks.drop n = x :: b) : toks.drop (n + 1) = b := drop_app (a := [x]) h
theorem drop_le {toks a : List Str} {n : Nat} (h : toks.drop n = a) (h0 : a ≠ []) : n + a.length = toks.length := by
  have e : (toks.drop n).length = a.length := by rw [h]
  rw [List.length_drop] at e
  have : a.length ≠ 0 := fun z => h0 (List.length_eq_zero_iff.mp z)
  omega
theorem sign_op {f : Int} (h : f = 1 ∨ f = -1) : signOf (opT f) = f := by
  rcases h with rfl | rfl <;> decide +kernel
theorem isop_op {f : Int} : isOp (opT f) = true := by
  unfold opT
  split <;> decide +kernel
theorem readS_print {names toks : List Str} : ∀ (r : Terms) (t : Tm) (m n : Nat) (f : Int) (acc : Terms) (post : List Str), toks.drop n = t.tok :: restT r ++ post → TmOk names t → (∀ u ∈ r, TmOk names u.2 ∧ (u.1 = 1 ∨ u.1 = -1)) → acc.length + m = 5 → r.length + 1 ≤ m → isOp (post.headD "") = false →
    readS names toks m n f acc = (some (acc ++ (f, t) :: r), n + (1 + (restT r).length))
  | [], t, m, n, f, acc, post, h, h1, h2, h3, h4, h5 => by
    obtain ⟨m, rfl⟩ : ∃ j, m = j + 1 := ⟨m - 1, by simp at h4; omega⟩
    have e0 : toks.getD n "" = t.tok := getD_drop h 0
    have e1 : toks.getD (n + 1) "" = post.headD "" := by rw [getD_drop h 1]; cases post <;> rfl
    unfold readS
    rw [e0, h1]
    dsimp only
    rw [if_pos (.inr (.inl (by rw [e1]; exact h5)))]
    rfl
  | (g, u) :: r, t, m, n, f, acc, post, h, h1, h2, h3, h4, h5 => by
    obtain ⟨m, rfl⟩ : ∃ j, m = j + 1 := ⟨m - 1, by simp at h4; omega⟩
    have e0 : toks.getD n "" = t.tok := getD_drop h 0
    have e1 : toks.getD (n + 1) "" = opT g := getD_drop h 1
    obtain ⟨u1, u2⟩ := h2 _ (List.mem_cons_self ..)
    have hl := drop_le h (List.cons_ne_nil _ _)
    simp only [List.length_cons] at h4
    unfold readS
    rw [e0, h1]
    dsimp only
    rw [if_neg ?_, e1, sign_op u2, readS_print r u m (n + 2) g (acc ++ [(f, t)]) post (drop_app (a := [t.tok, opT g]) h) u1 (fun x hx => h2 x (List.mem_cons_of_mem _ hx)) (by simp; omega) (by omega) h5]
    · rw [List.append_assoc]
      show (some _, _) = (some _, n + (1 + (opT g :: u.tok :: restT r).length))
      simp only [List.length_cons]
      congr 1
      omega
    · rintro (z | z | z)
      · simp [restT] at hl; omega
      · rw [e1, isop_op] at z; cases z
      · omega
theorem sumR_print {names toks post : List Str} {ts : Terms} {n : Nat} (h : toks.drop n = sumT ts ++ post) (ok : TsOk names ts) (hp : isOp (post.headD "") = false) : sumR names toks n = .ok (ts, n + (sumT ts).length) := by
  obtain ⟨h0, h1, h2, h3⟩ := ok
  cases ts with
  | nil => exact absurd rfl h0
  | cons t r =>
    obtain ⟨f, t⟩ := t
    obtain rfl : f = 1 := h3 _ rfl
    unfold sumR
    rw [readS_print r t 5 n 1 [] post h (h2 _ (List.mem_cons_self ..)).1 (fun x hx => h2 x (List.mem_cons_of_mem _ hx)) rfl h1 hp]
    show Except.ok _ = _
    simp only [sumT, List.length_cons, List.nil_append]
    congr 2
    omega
/-- an atom as it is written behind its nots -/
def Atom.toks : Atom → List Str
  | .word _ w x => [w, x]
  | .cmp _ s l r => sumT l ++ (s :: sumT r)
def Atom.sign : Atom → Bool
  | .word b _ _ => b
  | .cmp b _ _ _ => b
def nWords : List Str := ["not", "none", "live", "open", "and", "or", "", "+", "-"]
theorem nw1 : ∀ w ∈ (["none", "live"] : List Str), w ∈ nWords := by decide +kernel
theorem nw2 : ∀ w ∈ (["open"] : List Str), w ∈ nWords := by decide +kernel
def AtOk (l : Rdl) : Atom → Prop
  | .word _ w x => (w ∈ (["none", "live"] : List Str) ∧ x ∈ l.hs) ∨ (w = "open" ∧ x ∈ l.rs)
  | .cmp _ s a b => s ∈ signs6 ∧ TsOk l.names a ∧ TsOk l.names b ∧ (sumT a).headD "" ∉ nWords
theorem nots_print {toks : List Str} : ∀ (k f n : Nat) (b : Bool) (rest : List Str), toks.drop n = List.replicate k ("not" : Str) ++ rest → rest.headD "" ≠ "not" → k < f → nots toks f n b = (n + k, if k % 2 = 0 then b else !b)
  | 0, f, n, b, rest, h, h1, h2 => by
    obtain ⟨f, rfl⟩ : ∃ j, f = j + 1 := ⟨f - 1, by omega⟩
    unfold nots
    rw [if_neg (by rw [pk_drop h]; exact h1)]
    rfl
  | k + 1, f, n, b, rest, h, h1, h2 => by
    obtain ⟨f, rfl⟩ : ∃ j, f = j + 1 := ⟨f - 1, by omega⟩
    have e : toks.drop (n + 1) = List.replicate k ("not" : Str) ++ rest := drop_cons (x := "not") h
    unfold nots
    rw [if_pos (by rw [pk_drop h]; rfl), nots_print k f (n + 1) (!b) rest e h1 (by omega)]
    have : n + 1 + k = n + (k + 1) := by omega
    rw [this]
    congr 1
    rcases Nat.mod_two_eq_zero_or_one k with q | q
    · rw [if_pos q, if_neg (by omega)]
    · rw [if_neg (by omega), if_pos (by omega), Bool.not_not]
theorem takeR_print {al toks post : List Str} {n : Nat} {x : Str} (h : toks.drop n = x :: post) (hx : x ∈ al) : takeR al toks n = .ok (x, n + 1) := by
  unfold takeR
  rw [pk_drop h]
  show (if x ∈ al then _ else _) = _
  rw [if_pos hx]; rfl
theorem atomB_print {l : Rdl} {n : Nat} {a : Atom} {post : List Str} (h : l.toks.drop n = a.toks ++ post) (ok : AtOk l a) (hp : isOp (post.headD "") = false) : atomB l a.sign n = .ok (a, n + a.toks.length) := by
  cases a with
  | word b w x =>
    have h : l.toks.drop n = w :: x :: post := h
    have e := pk_drop h
    have e : pk l.toks n = w := e
    have t : ∀ al : List Str, x ∈ al → takeR al l.toks (n + 1) = .ok (x, n + 2) := fun al hx => takeR_print (drop_cons h) hx
    unfold atomB
    rw [e]
    rcases ok with ⟨hw, hx⟩ | ⟨rfl, hx⟩
    · rw [if_pos ⟨hw, fun z => by rw [z] at hx; cases hx⟩, t _ hx]
      rfl
    · rw [if_neg (fun z => absurd z.1 (by decide +kernel)), if_pos ⟨by decide +kernel, fun z => by rw [z] at hx; cases hx⟩, t _ hx]
      rfl
  | cmp b s x y =>
    obtain ⟨hs, hx, hy, hn⟩ := ok
    have h : l.toks.drop n = sumT x ++ (s :: sumT y) ++ post := h
    rw [List.append_assoc] at h
    have e : pk l.toks n = (sumT x).headD "" := by
      rw [pk_drop h]
      cases x with
      | nil => exact absurd rfl hx.1
      | cons t r => rfl
    have hnone : ¬ pk l.toks n ∈ (["none", "live"] : List Str) := fun z => hn (by rw [e] at z; exact nw1 _ z)
    have hopen : ¬ pk l.toks n ∈ (["open"] : List Str) := fun z => hn (by rw [e] at z; exact nw2 _ z)
    have key : ∀ s ∈ signs6, isOp s = false := by decide +kernel
    have d2 := drop_app h
    have d2 : l.toks.drop (n + (sumT x).length) = s :: (sumT y ++ post) := d2
    unfold atomB
    rw [if_neg (fun z => hnone z.1), if_neg (fun z => hopen z.1), sumR_print h hx (key s hs)]
    dsimp only
    rw [takeR_print d2 hs]
    dsimp only
    rw [sumR_print (drop_cons d2) hy hp]
    show Except.ok _ = Except.ok _
    simp only [Atom.toks, Atom.sign, List.length_append, List.length_cons]
    congr 2
    omega
theorem at_head {l : Rdl} {a : Atom} {post : List Str} (ok : AtOk l a) : (a.toks ++ post).headD "" ≠ "not" := by
  cases a with
  | word b w x =>
    show w ≠ "not"
    rcases ok with ⟨hw, _⟩ | ⟨rfl, _⟩
    · rintro rfl
      revert hw
      decide +kernel
    · decide +kernel
  | cmp b s x y =>
    obtain ⟨_, hx, _, hn⟩ := ok
    intro z
    apply hn
    have e : (sumT x).headD "" = "not" := by
      rw [← z]
      cases x with
      | nil => exact absurd rfl hx.1
      | cons t r => rfl
    rw [e]
    decide +kernel
/-- k nots and an atom -/
def naT (a : Nat × Atom) : List Str := List.replicate a.1 ("not" : Str) ++ a.2.toks
def NaOk (l : Rdl) (a : Nat × Atom) : Prop := AtOk l a.2 ∧ a.2.sign = decide (a.1 % 2 = 0)
theorem atomR_print {l : Rdl} {n : Nat} {a : Nat × Atom} {post : List Str} (h : l.toks.drop n = naT a ++ post) (ok : NaOk l a) (hp : isOp (post.headD "") = false) : atomR l n = .ok (a.2, n + (naT a).length) := by
  obtain ⟨k, a⟩ := a
  obtain ⟨ok, hb⟩ := ok
  have h : l.toks.drop n = List.replicate k ("not" : Str) ++ a.toks ++ post := h
  rw [List.append_assoc] at h
  have ha : a.toks ≠ [] := by
    cases a with
    | word b w x => exact List.cons_ne_nil _ _
    | cmp b s x y => simp [Atom.toks]
  have hl := drop_le h (by simp [ha])
  have hnt := nots_print k (l.toks.length + 1) n true _ h (at_head ok) (by simp at hl; omega)
  have hn2 : nots l.toks (l.toks.length + 1) n true = (n + k, a.sign) := by
    rw [hnt]
    have hb : a.sign = decide (k % 2 = 0) := hb
    rw [hb]
    by_cases q : k % 2 = 0
    · rw [if_pos q, decide_eq_true q]
    · rw [if_neg q, decide_eq_false q]; rfl
  unfold atomR
  rw [hn2]
  have d := drop_app h
  rw [List.length_replicate] at d
  rw [atomB_print d ok hp]
  simp only [naT, List.length_append, List.length_replicate]
  congr 2
  omega
theorem moreR_print {α β : Type} {sep : Str} {one : Nat → Except Nat (α × Nat)} {toks : List Str} {pr : β → List Str} {val : β → α} {ok : β → Prop} {Fol : Str → Prop} (h1 : ∀ b n post, ok b → toks.drop n = pr b ++ post → Fol (post.headD "") → one n = .ok (val b, n + (pr b).length)) (hs : Fol sep) : ∀ (xs : List β) (f n : Nat) (acc : List α) (post : List Str), (∀ x ∈ xs, ok x) → toks.drop n = xs.flatMap (fun x => sep :: pr x) ++ post → post.headD "" ≠ sep → Fol (post.headD "") → xs.length < f →
    moreR sep one toks f acc n = .ok (acc ++ xs.map val, n + (xs.flatMap fun x => sep :: pr x).length)
  | [], f, n, acc, post, _, h, h2, _, h4 => by
    obtain ⟨f, rfl⟩ : ∃ j, f = j + 1 := ⟨f - 1, by omega⟩
    unfold moreR
    rw [if_neg (by rw [pk_drop h]; exact h2)]
    simp
  | x :: xs, f, n, acc, post, hok, h, h2, h3, h4 => by
    obtain ⟨f, rfl⟩ : ∃ j, f = j + 1 := ⟨f - 1, by omega⟩
    have h : toks.drop n = sep :: (pr x ++ (xs.flatMap (fun x => sep :: pr x) ++ post)) := by
      rw [h]; simp
    have d := drop_cons h
    have hf : Fol ((xs.flatMap (fun x => sep :: pr x) ++ post).headD "") := by
      cases xs with
      | nil => exact h3
      | cons y r => exact hs
    unfold moreR
    rw [if_pos (by rw [pk_drop h]; rfl), h1 x (n + 1) _ (hok x (List.mem_cons_self ..)) d hf]
    dsimp only
    rw [moreR_print h1 hs xs f _ _ post (fun y hy => hok y (List.mem_cons_of_mem _ hy)) (drop_app d) h2 h3 (by simp at h4; omega)]
    simp only [List.map_cons, List.flatMap_cons, List.length_append, List.length_cons, List.append_assoc, List.singleton_append]
    congr 2
    omega
/-- items with sep between -/
def sepT {β : Type} (sep : Str) (pr : β → List Str) : List β → List Str
  | [] => []
  | x :: r => pr x ++ r.flatMap fun y => sep :: pr y
theorem flat_len {β : Type} {sep : Str} {pr : β → List Str} : ∀ r : List β, r.length ≤ (r.flatMap fun y => sep :: pr y).length
  | [] => Nat.zero_le _
  | y :: r => by
    have := flat_len (sep := sep) (pr := pr) r
    simp only [List.flatMap_cons, List.length_append, List.length_cons]
    omega
theorem manyR_print {α β : Type} {sep : Str} {one : Nat → Except Nat (α × Nat)} {toks : List Str} {pr : β → List Str} {val : β → α} {ok : β → Prop} {Fol : Str → Prop} (h1 : ∀ b n post, ok b → toks.drop n = pr b ++ post → Fol (post.headD "") → one n = .ok (val b, n + (pr b).length)) (hs : Fol sep) {xs : List β} {n : Nat} {post : List Str} (h0 : xs ≠ []) (hok : ∀ x ∈ xs, ok x) (h : toks.drop n = sepT sep pr xs ++ post) (h2 : post.headD "" ≠ sep) (h3 : Fol (post.headD "")) :
    manyR sep one toks n = .ok (xs.map val, n + (sepT sep pr xs).length) := by
  cases xs with
  | nil => exact absurd rfl h0
  | cons x r =>
    have h : toks.drop n = pr x ++ (r.flatMap (fun y => sep :: pr y) ++ post) := by rw [h]; simp [sepT]
    have hf : Fol ((r.flatMap (fun x => sep :: pr x) ++ post).headD "") := by
      cases r with
      | nil => exact h3
      | cons y r => exact hs
    unfold manyR
    rw [h1 x n _ (hok x (List.mem_cons_self ..)) h hf]
    dsimp only
    have d := drop_app h
    have hl : r.length < toks.length + 1 := by
      have e : (toks.drop (n + (pr x).length)).length = _ := congrArg List.length d
      have q := flat_len (sep := sep) (pr := pr) r
      rw [List.length_drop, List.length_append] at e
      omega
    rw [moreR_print h1 hs r _ _ _ post (fun y hy => hok y (List.mem_cons_of_mem _ hy)) d h2 h3 hl]
    simp only [List.map_cons, List.singleton_append, sepT, List.length_append]
    congr 2
    omega
def partT : List (Nat × Atom) → List Str := sepT "and" naT
def condT : List (List (Nat × Atom)) → List Str := sepT "or" partT
def valC (ps : List (List (Nat × Atom))) : List (List Atom) := ps.map fun p => p.map Prod.snd
def CdOk (l : Rdl) (ps : List (List (Nat × Atom))) : Prop := ps ≠ [] ∧ ∀ p ∈ ps, p ≠ [] ∧ ∀ a ∈ p, NaOk l a
theorem partR_print {l : Rdl} {n : Nat} {p : List (Nat × Atom)} {post : List Str} (h0 : p ≠ [] ∧ ∀ a ∈ p, NaOk l a) (h : l.toks.drop n = partT p ++ post) (hp : post.headD "" ≠ "and" ∧ isOp (post.headD "") = false) : partR l n = .ok (p.map Prod.snd, n + (partT p).length) :=
  manyR_print (Fol := fun s => isOp s = false) (val := Prod.snd) (ok := NaOk l) (fun b n post ok h hf => atomR_print h ok hf) (by decide +kernel) h0.1 h0.2 h hp.1 hp.2
theorem condR_print {l : Rdl} {ps : List (List (Nat × Atom))} (ok : CdOk l ps) (h : l.toks = condT ps) : condR l 0 = .ok (valC ps, l.toks.length) := by
  have := manyR_print (sep := "or") (one := partR l) (toks := l.toks) (pr := partT) (val := fun p : List (Nat × Atom) => p.map Prod.snd) (ok := fun p => p ≠ [] ∧ ∀ a ∈ p, NaOk l a) (Fol := fun s => s ≠ "and" ∧ isOp s = false) (fun b n post ok h hf => partR_print ok h hf) (by decide +kernel) (xs := ps) (n := 0) (post := []) ok.1 ok.2 (by rw [List.drop_zero, h, List.append_nil]; rfl) (by decide +kernel) (by decide +kernel)
  rw [show sepT "or" partT ps = l.toks from h.symm, Nat.zero_add] at this
  exact this
theorem initC_print {l : Rdl} {ps : List (List (Nat × Atom))} (ok : CdOk l ps) (h : l.toks = condT ps) : initC l = .ok (valC ps) := by
  unfold initC
  rw [condR_print ok h]
  dsimp only
  rw [if_neg (Nat.lt_irrefl _)]
/-! ### texts with one space between tokens -/
def spc : List Str → Str := Str.join " "
theorem spc_cons {x : Str} {r : List Str} (h : r ≠ []) : spc (x :: r) = x ++ " " ++ spc r := by
  cases r with
  | nil => exact absurd rfl h
  | cons y r => rfl
theorem app_assoc (a b c : Str) : a ++ b ++ c = a ++ (b ++ c) := str_eq (by simp [Str.cps_append])
theorem app_empty (a : Str) : a ++ ("" : Str) = a := str_eq (by rw [Str.cps_append, show (("" : Str)).cps = #[] from rfl, Array.append_empty])
theorem app_empty' (a : Str) : ("" : Str) ++ a = a := str_eq (by rw [Str.cps_append, show (("" : Str)).cps = #[] from rfl, Array.empty_append])
theorem spc_app {a b : List Str} (ha : a ≠ []) (hb : b ≠ []) : spc (a ++ b) = spc a ++ " " ++ spc b := by
  induction a with
  | nil => exact absurd rfl ha
  | cons x r ih =>
    cases r with
    | nil => exact spc_cons hb
    | cons y r =>
      rw [List.cons_append, spc_cons (by simp), ih (by simp), spc_cons (x := x) (r := y :: r) (by simp)]
      simp only [app_assoc]
/-- " sep ".join of spaced texts -/
theorem spc_sep {β : Type} {sep s3 : Str} {pr : β → List Str} (h3 : s3 = " " ++ sep ++ " ") : ∀ xs : List β, (∀ x ∈ xs, pr x ≠ []) → Str.join s3 (xs.map fun x => spc (pr x)) = spc (sepT sep pr xs)
  | [], _ => rfl
  | [x], _ => by
    show spc (pr x) = spc (pr x ++ [])
    rw [List.append_nil]
  | x :: y :: r, h => by
    have ih := spc_sep h3 (y :: r) fun z hz => h z (List.mem_cons_of_mem _ hz)
    have hx := h x (List.mem_cons_self ..)
    have hy := h y (List.mem_cons_of_mem _ (List.mem_cons_self ..))
    rw [List.map_cons] at ih
    rw [List.map_cons, List.map_cons, join_cons2, ih]
    have e : sepT sep pr (x :: y :: r) = pr x ++ (sep :: sepT sep pr (y :: r)) := by simp [sepT]
    have ne : sepT sep pr (y :: r) ≠ [] := by simp [sepT, hy]
    rw [e, spc_app hx (by simp), spc_cons ne, h3]
    simp only [app_assoc]
theorem words_spc {toks : List Str} (h : ∀ t ∈ toks, Tk t) : Txt.words (spc toks) = toks := by
  have := words_join0 (sep := " ") (tail := "") (by unfold Bl; decide) (by decide) (by unfold Bl; decide) h
  rwa [app_empty] at this
theorem join_one {a x : Str} : Str.join a [x] = x := rfl
theorem join_txt (a : Str) (xs : List Str) : Txt.join a xs = Str.join a xs := StrLaws.glued_eq_join _ _
theorem fold_cps (x : Array Nat) : ∀ (n : Nat) (acc : Array Nat), (List.replicate n x).foldl (fun a b => a ++ b) acc = acc ++ (List.replicate n x).foldl (fun a b => a ++ b) #[]
  | 0, acc => by simp
  | n + 1, acc => by
    rw [List.replicate_succ, List.foldl_cons, List.foldl_cons, fold_cps x n, fold_cps x n (#[] ++ x)]
    simp
def rep (x : Str) : Nat → Str
  | 0 => ""
  | n + 1 => x ++ rep x n
theorem rep_cps (x : Str) : ∀ n : Nat, (rep x n).cps = (List.replicate n x.cps).foldl (fun a b => a ++ b) #[]
  | 0 => rfl
  | n + 1 => by
    rw [List.replicate_succ, List.foldl_cons, fold_cps, ← rep_cps x n]
    show (x ++ rep x n).cps = _
    rw [Str.cps_append]
    simp
theorem mul_rep {x : Str} {n : Int} (h0 : 0 ≤ n) : Txt.mul x n = rep x n.toNat := by
  obtain ⟨m, rfl⟩ : ∃ m : Nat, n = (m : Nat) := ⟨n.toNat, by omega⟩
  rw [Int.toNat_natCast]
  unfold Txt.mul
  by_cases h1 : (m : Int) < 1
  · rw [if_pos h1]
    obtain rfl : m = 0 := by omega
    rfl
  · rw [if_neg h1]
    split
    · rename_i h2
      simp only [Bool.or_eq_true, beq_iff_eq] at h2
      rcases h2 with h2 | h2
      · obtain rfl : m = 1 := by omega
        show x = x ++ ("" : Str)
        rw [app_empty]
      · have hx : x = "" := by
          have : x.cps.size = 0 := h2
          exact Str.ext' (Array.eq_empty_of_size_eq_zero this)
        subst hx
        clear h1 h2 h0
        induction m with
        | zero => rfl
        | succ m ih => show ("" : Str) = "" ++ rep "" m; rw [← ih]; rfl
    · exact Str.ext' (by rw [rep_cps, Int.toNat_natCast])
theorem rep_spc {x : Str} {r : List Str} (hr : r ≠ []) : ∀ n : Nat, rep (x ++ " ") n ++ spc r = spc (List.replicate n x ++ r)
  | 0 => app_empty' _
  | n + 1 => by
    rw [List.replicate_succ, List.cons_append, spc_cons (by simp [hr]), ← rep_spc hr n]
    show x ++ " " ++ rep (x ++ " ") n ++ spc r = _
    simp only [app_assoc]
theorem mulOk_small {x : Str} {n : Int} (h0 : 0 ≤ n) (h1 : n ≤ 1000) (hx : x.length ≤ 1000) : MulOk x n := by
  refine ⟨by simp; omega, fun h2 _ => ?_, fun h2 _ => ?_⟩
  · have hpos : 0 < n := by omega
    have hle : (2 ^ 63 - 1 : Int) / 1000 ≤ (2 ^ 63 - 1) / n := by
      apply Int.le_ediv_of_mul_le hpos
      have : (2 ^ 63 - 1 : Int) / 1000 * n ≤ (2 ^ 63 - 1) / 1000 * 1000 := Int.mul_le_mul_of_nonneg_left h1 (by decide)
      omega
    have : (2 ^ 63 - 1 : Int) / 1000 = 9223372036854775 := by decide
    omega
  · unfold Builtin.Str.tooLong
    have : x.length * n.toNat ≤ 1000 * 1000 := Nat.mul_le_mul hx (by omega)
    simp [sizeLine_eq]
    omega


theorem rep_len (x : Str) : ∀ n : Nat, (rep x n).length = n * x.length
  | 0 => by rw [Nat.zero_mul]; rfl
  | n + 1 => by
    show (x ++ rep x n).length = _
    rw [Str.length_append, rep_len x n, Nat.add_mul, Nat.one_mul, Nat.add_comm]
theorem call_cond {K : PySem.W.Frag} {H : Hp} {Q : VK} {E : XK} {x dx q h k : Addr} {text : Str} {names hs rs : List Str} {ps : List (List (Nat × Atom))} (hx : H x = some (.ins (He.ga K "Condition") dx [])) (hq : SqL K H q (names.map V.str)) (hh : SqL K H h (hs.map V.str)) (hk : SqL K H k (rs.map V.str)) (hw : Txt.words text = condT ps) (hl : text.length ≤ 10000) (ok : CdOk ⟨condT ps, names, hs, rs⟩ ps)
    (kQ : ∀ H', Sx [x] H H' → CondAt K (fun a => H a = none) H' x (valC ps) (spc (condT ps)) → Q .non H') : sp_Condition___init__ K [.ref x, .str text, .ref q, .ref h, .ref k] H Q E := by
  have hi := initC_print (l := ⟨condT ps, names, hs, rs⟩) ok rfl
  refine ⟨x, dx, q, h, k, text, ⟨condT ps, names, hs, rs⟩, rfl, hx, hq, hh, hk, hw.symm, hl, fun e he => ?_, fun ps' hps H' s hC => ?_⟩
  · rw [hi] at he; cases he
  · rw [hi] at hps
    cases hps
    rw [join_txt] at hC
    exact kQ H' s hC


def numB (d : Nat) : Bool := let t := numT (d : Int); isNum t && decide (numVal t = (d : Int)) && decide (t.length ≤ 3) && (!t.cps.toList.isEmpty && t.cps.toList.all fun c => decide (48 ≤ c) && decide (c ≤ 57))
theorem numB_all : ∀ d : Nat, d < 1000 → numB d = true := by decide +kernel
theorem num_ok {d : Int} (h0 : 0 ≤ d) (h1 : d < 1000) : isNum (numT d) = true ∧ numVal (numT d) = d ∧ (numT d).length ≤ 3 ∧ (numT d).cps.toList ≠ [] ∧ ∀ c ∈ (numT d).cps.toList, 48 ≤ c ∧ c ≤ 57 := by
  have h := numB_all d.toNat (by omega)
  unfold numB at h
  rw [show ((d.toNat : Nat) : Int) = d by omega] at h
  simp only [Bool.and_eq_true, decide_eq_true_eq, Bool.not_eq_true', List.isEmpty_eq_false_iff, List.all_eq_true] at h
  exact ⟨h.1.1.1, h.1.1.2, h.1.2, h.2.1, h.2.2⟩
theorem num_tk {d : Int} (h0 : 0 ≤ d) (h1 : d < 1000) : Tk (numT d) := ⟨(num_ok h0 h1).2.2.2.1, fun c hc => by
  have := (num_ok h0 h1).2.2.2.2 c hc
  omega⟩
theorem num_nw {d : Int} (h0 : 0 ≤ d) (h1 : d < 1000) : numT d ∉ nWords := fun z => by
  obtain ⟨_, _, _, hne, hc⟩ := num_ok h0 h1
  have key : ∀ w ∈ nWords, w.cps.toList = [] ∨ ∃ c ∈ w.cps.toList, ¬ (48 ≤ c ∧ c ≤ 57) := by decide +kernel
  rcases key _ z with h | ⟨c, h1, h2⟩
  · exact hne h
  · exact h2 (hc c h1)
theorem num_term {names : List Str} {d : Int} (h0 : 0 ≤ d) (h1 : d < 1000) (hn : numT d ∉ names) : TmOk names (.num d) := by
  unfold TmOk termOf
  show (if numT d ∈ names then _ else _) = _
  obtain ⟨h2, h3, _⟩ := num_ok h0 h1
  show (if numT d ∈ names then some (Tm.nam (numT d)) else if isNum (numT d) = true then some (.num (numVal (numT d))) else none) = _
  rw [if_neg hn, if_pos h2, h3]
theorem tk_by {t : Str} (h : (!t.cps.toList.isEmpty && t.cps.toList.all fun c => decide (33 ≤ c) && decide (c ≤ 126)) = true) : Tk t := by
  simp only [Bool.and_eq_true, Bool.not_eq_true', List.isEmpty_eq_false_iff, List.all_eq_true, decide_eq_true_eq] at h
  exact ⟨h.1, h.2⟩
theorem sepT_mem {β : Type} {sep t : Str} {pr : β → List Str} {xs : List β} (h : t ∈ sepT sep pr xs) : t = sep ∨ ∃ x ∈ xs, t ∈ pr x := by
  cases xs with
  | nil => simp [sepT] at h
  | cons x r =>
    simp only [sepT, List.mem_append, List.mem_flatMap, List.mem_cons] at h
    rcases h with h | ⟨y, hy, h | h⟩
    · exact .inr ⟨x, List.mem_cons_self .., h⟩
    · exact .inl h
    · exact .inr ⟨y, List.mem_cons_of_mem _ hy, h⟩


def tmD : Tm → PyData
  | .num n => .int n
  | .nam s => .str s
def termD (t : Int × Tm) : PyData := .tuple [.str (opT t.1), tmD t.2]
/-- a term as the laws draw it -/
def TmW (names : List Str) : Tm → Prop
  | .num n => 0 ≤ n ∧ n < 1000
  | .nam s => s ∈ names
def TsW (names : List Str) (many : Nat) (ts : Terms) : Prop := ts ≠ [] ∧ ts.length ≤ many ∧ (∀ t ∈ ts, TmW names t.2 ∧ (t.1 = 1 ∨ t.1 = -1)) ∧ ∀ t ∈ ts.head?, t.1 = 1

def sp_law_terms (K : PySem.W.Frag) : Sp := fun vs H Q _ => ∃ (W : List Addr) (b q : Addr) (names : List Str) (many : Nat), vs = [.ref b, .ref q, .int (many : Nat)] ∧ Bag H b ∧ b ∈ W ∧ Wl W H ∧ Df W H (.ref q) (.list (names.map PyData.str)) ∧ names.length ≤ 1000 ∧ 0 < many ∧ many ≤ 5 ∧
  ∀ p ts H', H p = none → Ed [b] H H' → Bag H' b → Df W H' (.ref p) (.list (ts.map termD)) → TsW names many ts → Q (.ref p) H'

def TmS : Tm → Prop
  | .num n => 0 ≤ n ∧ n < 1000
  | .nam s => s.length ≤ 8
theorem tok_len {t : Tm} (h : TmS t) : t.tok.length ≤ 8 := by
  cases t with
  | num n => exact Nat.le_trans (num_ok h.1 h.2).2.2.1 (by decide)
  | nam s => exact h
theorem g_strT {W : List Addr} {H : Hp} {v : V} {t : Tm} {Q : VK} (h : Df W H v (tmD t)) (hs : TmS t) (k : Q (.str t.tok) H) : dStr [v] H Q := by
  cases t with
  | num n =>
    have h : Df W H v (.int n) := h
    obtain rfl := h.isInt
    exact g_str_i (log2_1000 hs.1 (by have := hs.2; omega)) k
  | nam s =>
    have h : Df W H v (.str s) := h
    obtain rfl := h.isStr
    exact g_str_s k
theorem cells2 {W : List Addr} {H : Hp} {xs : List V} {s : Str} {d : PyData} (h : DfAll W H xs [.str s, d]) : ∃ v, xs = [.str s, v] ∧ Df W H v d := by
  cases h with
  | cons h1 r =>
    cases r with
    | cons h2 r2 =>
      cases r2
      rw [h1.isStr]
      exact ⟨_, rfl, h2⟩
/-- the i-th piece of a sum's text -/
def pcT (i : Nat) (t : Int × Tm) : Str := (if i = 0 then ("" : Str) else opT t.1 ++ " ") ++ t.2.tok
theorem op_len {f : Int} : (opT f).length = 1 := by
  unfold opT
  split <;> rfl
theorem join_pre (s a b : Str) : ∀ l : List Str, Str.join s ((a ++ b) :: l) = a ++ Str.join s (b :: l)
  | [] => rfl
  | x :: r => by rw [join_cons2, join_cons2]; simp only [app_assoc]
theorem join_rest : ∀ (r : Terms) (x : Str), Str.join " " (x :: r.map fun t => opT t.1 ++ " " ++ t.2.tok) = spc (x :: restT r)
  | [], x => rfl
  | t :: r, x => by
    rw [List.map_cons, join_cons2, join_pre, join_rest r]
    show _ = spc (x :: opT t.1 :: (t.2.tok :: restT r))
    rw [spc_cons (x := x) (r := opT t.1 :: t.2.tok :: restT r) (by simp), spc_cons (x := opT t.1) (r := t.2.tok :: restT r) (by simp)]
theorem join_sum (ts : Terms) : Str.join " " (ts.mapIdx pcT) = spc (sumT ts) := by
  cases ts with
  | nil => rfl
  | cons t r =>
    rw [List.mapIdx_cons]
    have e : r.mapIdx (fun i => pcT (i + 1)) = r.map fun t => opT t.1 ++ " " ++ t.2.tok := by
      refine List.ext_getElem (by simp) fun i h1 h2 => ?_
      rw [List.getElem_mapIdx, List.getElem_map]
      unfold pcT
      rw [if_neg (by omega)]
    rw [e]
    have e0 : pcT 0 t = t.2.tok := app_empty' _
    rw [e0, join_rest]
    rfl
theorem mapIdx_take {α β : Type} {l : List α} {f : Nat → α → β} {i : Nat} {x : α} (h : l[i]? = some x) : (l.take (i + 1)).mapIdx f = (l.take i).mapIdx f ++ [f i x] := by
  have hi : i < l.length := (List.getElem?_eq_some_iff.mp h).1
  rw [List.take_succ, h]
  show (l.take i ++ [x]).mapIdx f = _
  rw [List.mapIdx_concat, List.length_take, Nat.min_eq_left (by omega)]

def sp_law_sum_text (K : PySem.W.Frag) : Sp := fun vs H Q _ => ∃ (W : List Addr) (p : Addr) (ts : Terms), vs = [.ref p] ∧ Df W H (.ref p) (.list (ts.map termD)) ∧ Wl W H ∧ ts.length ≤ 5 ∧ (∀ t ∈ ts, TmS t.2) ∧ ∀ H', Ed [] H H' → Q (.str (spc (sumT ts))) H'

def naD : Nat × Atom → PyData
  | (n, .word _ w x) => .tuple [.int (n : Nat), .str w, .str x, .list []]
  | (n, .cmp _ s l r) => .tuple [.int (n : Nat), .str s, .list (l.map termD), .list (r.map termD)]
/-- an atom as the laws draw it -/
def NaW (names hs rs : List Str) (a : Nat × Atom) : Prop := a.1 ≤ 2 ∧ a.2.sign = decide (a.1 % 2 = 0) ∧ match a.2 with
  | .word _ w x => (w ∈ (["none", "live"] : List Str) ∧ x ∈ hs) ∨ (w = "open" ∧ x ∈ rs)
  | .cmp _ s l r => s ∈ signs6 ∧ TsW names 2 l ∧ TsW names 2 r
def words9 : List Str := ["none", "live", "open", "=", "!=", "<", "<=", ">", ">="]
theorem word9 : ∀ w ∈ words9, w ∈ (["none", "live"] : List Str) ∨ w = "open" ∨ w ∈ signs6 := by decide +kernel
theorem word9s : ∀ w ∈ words9, w ∉ (["none", "live", "open"] : List Str) → w ∈ signs6 := by decide +kernel
theorem strs_nil {xs : List Str} : (xs.map PyData.str).isEmpty = decide (xs = []) := by cases xs <;> simp
theorem call_terms {K : PySem.W.Frag} {H : Hp} {Q : VK} {E : XK} {W : List Addr} {b q : Addr} {names : List Str} {many : Nat} {m : Int} (hm : m = (many : Nat)) (hb : Bag H b) (hbW : b ∈ W) (hw : Wl W H) (dq : Df W H (.ref q) (.list (names.map PyData.str))) (hnl : names.length ≤ 1000) (hm0 : 0 < many) (hm5 : many ≤ 5)
    (k : ∀ p ts H', H p = none → Ed [b] H H' → Bag H' b → Df W H' (.ref p) (.list (ts.map termD)) → TsW names many ts → Q (.ref p) H') : sp_law_terms K [.ref b, .ref q, .int m] H Q E := by
  subst hm
  exact ⟨W, b, q, names, many, rfl, hb, hbW, hw, dq, hnl, hm0, hm5, k⟩

def sp_law_atom (K : PySem.W.Frag) : Sp := fun vs H Q _ => ∃ (W : List Addr) (b q h r : Addr) (names hs rs : List Str), vs = [.ref b, .ref q, .ref h, .ref r] ∧ Bag H b ∧ b ∈ W ∧ Wl W H ∧ Df W H (.ref q) (.list (names.map PyData.str)) ∧ Df W H (.ref h) (.list (hs.map PyData.str)) ∧ Df W H (.ref r) (.list (rs.map PyData.str)) ∧ names.length ≤ 1000 ∧ hs.length ≤ 1000 ∧ rs.length ≤ 1000 ∧ Sok hs ∧ Sok rs ∧
  ∀ v a H', Ed [b] H H' → Bag H' b → Df W H' v (naD a) → NaW names hs rs a → Q v H'

def partD (p : List (Nat × Atom)) : PyData := .list (p.map naD)
def PtW (names hs rs : List Str) (most : Nat) (p : List (Nat × Atom)) : Prop := p ≠ [] ∧ p.length ≤ most ∧ ∀ a ∈ p, NaW names hs rs a
def CdW (names hs rs : List Str) (most : Nat) (ps : List (List (Nat × Atom))) : Prop := ps ≠ [] ∧ ps.length ≤ most ∧ ∀ p ∈ ps, PtW names hs rs most p
theorem edJ {W : List Addr} {b D : Addr} {H : Hp} (w : Wl W H) (hD : H D = none) (hb : b ∈ W) : b ∉ [D] := nb_wl w hD hb

def sp_law_condition (K : PySem.W.Frag) : Sp := fun vs H Q _ => ∃ (W : List Addr) (b q h r : Addr) (names hs rs : List Str) (most : Nat), vs = [.ref b, .ref q, .ref h, .ref r, .int (most : Nat)] ∧ Bag H b ∧ b ∈ W ∧ Wl W H ∧ Df W H (.ref q) (.list (names.map PyData.str)) ∧ Df W H (.ref h) (.list (hs.map PyData.str)) ∧ Df W H (.ref r) (.list (rs.map PyData.str)) ∧ names.length ≤ 1000 ∧ hs.length ≤ 1000 ∧ rs.length ≤ 1000 ∧ Sok hs ∧ Sok rs ∧ 0 < most ∧ most ≤ 10 ∧
  ∀ p ps H', H p = none → Ed [b] H H' → Bag H' b → Df W H' (.ref p) (.list (ps.map partD)) → CdW names hs rs most ps → Q (.ref p) H'

/-- what the texts ask of an atom -/
def NaS (a : Nat × Atom) : Prop := a.1 ≤ 2 ∧ match a.2 with
  | .word _ w x => w.length ≤ 4 ∧ x.length ≤ 8
  | .cmp _ s l r => s.length ≤ 2 ∧ l ≠ [] ∧ r ≠ [] ∧ l.length ≤ 5 ∧ r.length ≤ 5 ∧ (∀ t ∈ l, TmS t.2) ∧ ∀ t ∈ r, TmS t.2
theorem sumT_ne {ts : Terms} (h : ts ≠ []) : sumT ts ≠ [] := by
  cases ts with
  | nil => exact absurd rfl h
  | cons t r => simp [sumT]
theorem sumT_len {ts : Terms} (h : ts.length ≤ 5) (hs : ∀ t ∈ ts, TmS t.2) : (spc (sumT ts)).length ≤ 60 := by
  rw [← join_sum]
  have hll : ∀ t ∈ ts.mapIdx pcT, t.length ≤ 10 := fun t ht => by
    obtain ⟨i, hi, rfl⟩ := List.mem_mapIdx.mp ht
    have h1 := tok_len (hs _ (List.getElem_mem hi))
    have h2 := op_len (f := (ts[i]).1)
    unfold pcT
    rw [Str.length_append]
    split
    · rw [show (("" : Str)).length = 0 from rfl]; omega
    · rw [Str.length_append, h2, show ((" " : Str)).length = 1 from rfl]; omega
  have := join_len_le " " 10 _ hll
  rw [List.length_mapIdx, show ((" " : Str)).length = 1 from rfl] at this
  omega
theorem cells4 {W : List Addr} {H : Hp} {xs : List V} {n : Int} {s : Str} {d e : PyData} (h : DfAll W H xs [.int n, .str s, d, e]) : ∃ v w, xs = [.int n, .str s, v, w] ∧ Df W H v d ∧ Df W H w e := by
  cases h with
  | cons h1 r =>
    cases r with
    | cons h2 r =>
      cases r with
      | cons h3 r =>
        cases r with
        | cons h4 r =>
          cases r
          rw [h1.isInt, h2.isStr]
          exact ⟨_, _, rfl, h3, h4⟩
theorem na_text_len {a : Nat × Atom} (h : NaS a) : (spc (naT a)).length ≤ 200 := by
  obtain ⟨n, a⟩ := a
  obtain ⟨hn, h⟩ := h
  have hn : n ≤ 2 := hn
  have hr : (rep "not " n).length ≤ 8 := by
    rw [rep_len, show (("not " : Str)).length = 4 from rfl]; omega
  cases a with
  | word b w x =>
    obtain ⟨h1, h2⟩ := h
    show (spc (List.replicate n ("not" : Str) ++ [w, x])).length ≤ 200
    rw [← rep_spc (by simp), Str.length_append, spc_cons (by simp), Str.length_append, Str.length_append, show ((" " : Str)).length = 1 from rfl]
    show (rep "not " n).length + (w.length + 1 + x.length) ≤ 200
    omega
  | cmp b s l r =>
    obtain ⟨h1, h2, h3, h4, h5, h6, h7⟩ := h
    have a1 := sumT_len h4 h6
    have a2 := sumT_len h5 h7
    show (spc (List.replicate n ("not" : Str) ++ (sumT l ++ (s :: sumT r)))).length ≤ 200
    rw [← rep_spc (by simp), spc_app (sumT_ne h2) (by simp), spc_cons (sumT_ne h3)]
    simp only [Str.length_append, show ((" " : Str)).length = 1 from rfl]
    show (rep "not " n).length + _ ≤ 200
    omega

def sp_law_atom_text (K : PySem.W.Frag) : Sp := fun vs H Q _ => ∃ (W : List Addr) (v : V) (a : Nat × Atom), vs = [v] ∧ Df W H v (naD a) ∧ Wl W H ∧ NaS a ∧ ∀ H', Ed [] H H' → Q (.str (spc (naT a))) H'

theorem naT_ne {a : Nat × Atom} : naT a ≠ [] := by
  obtain ⟨n, a⟩ := a
  cases a with
  | word b w x => simp [naT, Atom.toks]
  | cmp b s l r => simp [naT, Atom.toks]
theorem partT_ne {p : List (Nat × Atom)} (h : p ≠ []) : partT p ≠ [] := by
  cases p with
  | nil => exact absurd rfl h
  | cons x r =>
    intro z
    have : naT x ++ _ = [] := z
    exact naT_ne (List.append_eq_nil_iff.mp this).1
theorem join_part (p : List (Nat × Atom)) : Str.join " and " (p.map fun a => spc (naT a)) = spc (partT p) := spc_sep (by decide +kernel) p fun _ _ => naT_ne
theorem join_cond (ps : List (List (Nat × Atom))) (h : ∀ p ∈ ps, p ≠ []) : Str.join " or " (ps.map fun p => spc (partT p)) = spc (condT ps) := spc_sep (by decide +kernel) ps fun p hp => partT_ne (h p hp)

def sp_law_condition_text (K : PySem.W.Frag) : Sp := fun vs H Q _ => ∃ (W : List Addr) (p : Addr) (ps : List (List (Nat × Atom))), vs = [.ref p] ∧ Df W H (.ref p) (.list (ps.map partD)) ∧ Wl W H ∧ ps.length ≤ 10 ∧ (∀ x ∈ ps, x ≠ [] ∧ x.length ≤ 10 ∧ ∀ a ∈ x, NaS a) ∧ ∀ H', Ed [] H H' → (spc (condT ps)).length ≤ 22000 → Q (.str (spc (condT ps))) H'

def notDigs (l : List Nat) : List Nat := l.filter fun c => !decide (c ∈ digs.cps.toList)
theorem sok_single {l : List Nat} (h : ∀ c ∈ l, c ≤ 127) : Sok (l.map fun c => (⟨#[c]⟩ : Str)) := fun x hx => by
  obtain ⟨c, hc, rfl⟩ := List.mem_map.mp hx
  exact sok_asc fun d hd => by simp at hd; subst hd; exact h _ hc
theorem filter_take {l : List Nat} {i c : Nat} {f : Nat → Bool} (h : l[i]? = some c) : (l.take (i + 1)).filter f = (l.take i).filter f ++ (if f c = true then [c] else []) := by
  rw [List.take_succ, h, List.filter_append]
  congr 1
  simp only [Option.toList_some]
  cases e : f c <;> simp [e]
theorem notDigs_nil {t : Str} : notDigs t.cps.toList = [] ↔ (t.cps.toList.all fun c => decide (c ∈ digs.cps.toList)) = true := by
  unfold notDigs
  rw [List.filter_eq_nil_iff, List.all_eq_true]
  simp

def sp_law_is_number (K : PySem.W.Frag) : Sp := fun vs H Q _ => ∃ t : Str, vs = [.str t] ∧ t.length ≤ 10000 ∧ (∀ c ∈ t.cps.toList, c ≤ 127) ∧ ∀ H', Same H H' → Q (.bl (isNum t)) H'

/-! ### the places behind tokens, and the first token that cannot stand -/
inductive Pl where
  | atom | left | right | bleft | bright | handle | request | joined | bad
deriving DecidableEq
structure Wds where
  names : List Str
  hd : Str
  rq : Str
def isTerm (w : Wds) (t : Str) : Bool := decide (t ∈ w.names) || isNum t
def nextP (w : Wds) (t : Str) (p : Pl) (c : Nat) : Pl × Nat :=
  if p = .atom ∧ t = "not" then (.atom, 0)
  else if p = .atom ∧ (t = "none" ∨ t = "live") ∧ w.hd ≠ "" then (.handle, 0)
  else if p = .atom ∧ t = "open" ∧ w.rq ≠ "" then (.request, 0)
  else if (p = .atom ∨ p = .left) ∧ isTerm w t = true then (.bleft, c + 1)
  else if p = .right ∧ isTerm w t = true then (.bright, c + 1)
  else if p = .bleft ∧ t ∈ signs6 then (.right, 0)
  else if p = .bleft ∧ isOp t = true ∧ c < 5 then (.left, c)
  else if p = .bright ∧ isOp t = true ∧ c < 5 then (.right, c)
  else if (p = .handle ∧ t = w.hd) ∨ (p = .request ∧ t = w.rq) then (.joined, 0)
  else if (p = .joined ∨ p = .bright) ∧ (t = "and" ∨ t = "or") then (.atom, 0)
  else (.bad, 0)
def accP (p : Pl) : Bool := decide (p = .joined ∨ p = .bright)
def runP (w : Wds) : Pl → Nat → List Str → Nat → Option Nat
  | p, _, [], n => if accP p = true then none else some n
  | p, c, t :: r, n => if (nextP w t p c).1 = .bad then some n else runP w (nextP w t p c).1 (nextP w t p c).2 r (n + 1)
def wds (w : Wds) (toks : List Str) : Rdl := ⟨toks, w.names, if w.hd = "" then [] else [w.hd], if w.rq = "" then [] else [w.rq]⟩
def WdOk (w : Wds) : Prop := ∀ t ∈ w.names, t ∉ nWords
section
variable {w : Wds} {toks : List Str}
/-- from the place p at the token n on -/
def RP (w : Wds) (toks : List Str) (p : Pl) (c n : Nat) : Option Nat := runP w p c (toks.drop n) n
theorem rp_step {p : Pl} {c n : Nat} (h : n < toks.length) : RP w toks p c n = if (nextP w (pk toks n) p c).1 = .bad then some n else RP w toks (nextP w (pk toks n) p c).1 (nextP w (pk toks n) p c).2 (n + 1) := by
  unfold RP
  have e : toks.drop n = pk toks n :: toks.drop (n + 1) := by
    rw [List.drop_eq_getElem_cons h]
    congr 1
    have := pk_in h
    rw [List.getElem?_eq_getElem h] at this
    exact Option.some.inj this
  rw [e]
  rfl
theorem rp_end {p : Pl} {c n : Nat} (h : toks.length ≤ n) : RP w toks p c n = if accP p = true then none else some n := by
  unfold RP
  rw [List.drop_eq_nil_of_le h]
  rfl
theorem num_nw9 : ∀ t ∈ nWords, isNum t = false := by decide +kernel
theorem term_nw (hw : WdOk w) {t : Str} (h : isTerm w t = true) : t ∉ nWords := fun z => by
  unfold isTerm at h
  rw [num_nw9 t z, Bool.or_false] at h
  exact hw t (of_decide_eq_true h) z
theorem term_no (hw : WdOk w) {t : Str} (h : t ∈ nWords) : isTerm w t = false := by
  cases e : isTerm w t with
  | false => rfl
  | true => exact absurd h (term_nw hw e)
theorem term_of {t : Str} : isTerm w t = (termOf w.names t).isSome := by
  unfold isTerm termOf
  by_cases h : t ∈ w.names
  · rw [decide_eq_true h, if_pos h]; rfl
  · rw [decide_eq_false h, if_neg h, Bool.false_or]
    by_cases q : isNum t = true
    · rw [if_pos q, q]; rfl
    · rw [if_neg q]
      cases e : isNum t with
      | false => rfl
      | true => exact absurd e q
theorem nw_not : (("" : Str) ∈ nWords ∧ ("not" : Str) ∈ nWords ∧ ("none" : Str) ∈ nWords ∧ ("live" : Str) ∈ nWords ∧ ("open" : Str) ∈ nWords) := by decide +kernel
/-- a token that begins nothing else at an atom's place -/
def Plain (w : Wds) (t : Str) : Prop := ¬ t = "not" ∧ ¬ ((t = "none" ∨ t = "live") ∧ w.hd ≠ "") ∧ ¬ (t = "open" ∧ w.rq ≠ "")
theorem next_atom {t : Str} {c : Nat} (h : Plain w t) : nextP w t .atom c = if isTerm w t = true then (.bleft, c + 1) else (.bad, 0) := by
  obtain ⟨h1, h2, h3⟩ := h
  unfold nextP
  rw [if_neg (fun z => h1 z.2), if_neg (fun z => h2 z.2), if_neg (fun z => h3 z.2)]
  by_cases q : isTerm w t = true
  · rw [if_pos ⟨.inl rfl, q⟩, if_pos q]
  · rw [if_neg (fun z => q z.2), if_neg q]
    simp
theorem next_left {t : Str} {c : Nat} : nextP w t .left c = if isTerm w t = true then (.bleft, c + 1) else (.bad, 0) := by
  unfold nextP
  by_cases q : isTerm w t = true
  · rw [if_pos q]; simp [q]
  · rw [if_neg q]; simp [q]
theorem next_right {t : Str} {c : Nat} : nextP w t .right c = if isTerm w t = true then (.bright, c + 1) else (.bad, 0) := by
  unfold nextP
  by_cases q : isTerm w t = true
  · rw [if_pos q]; simp [q]
  · rw [if_neg q]; simp [q]
theorem next_bleft {t : Str} {c : Nat} : nextP w t .bleft c = if t ∈ signs6 then (.right, 0) else if isOp t = true ∧ c < 5 then (.left, c) else (.bad, 0) := by
  unfold nextP
  simp
theorem next_bright {t : Str} {c : Nat} : nextP w t .bright c = if isOp t = true ∧ c < 5 then (.right, c) else if t = "and" ∨ t = "or" then (.atom, 0) else (.bad, 0) := by
  unfold nextP
  simp
theorem next_joined {t : Str} {c : Nat} : nextP w t .joined c = if t = "and" ∨ t = "or" then (.atom, 0) else (.bad, 0) := by
  unfold nextP
  simp
theorem next_handle {t : Str} {c : Nat} : nextP w t .handle c = if t = w.hd then (.joined, 0) else (.bad, 0) := by
  unfold nextP
  simp
theorem next_request {t : Str} {c : Nat} : nextP w t .request c = if t = w.rq then (.joined, 0) else (.bad, 0) := by
  unfold nextP
  simp
/-- one of the two sides of a comparison -/
def sideP (l : Bool) : Pl := if l then .left else .right
def behP (l : Bool) : Pl := if l then .bleft else .bright
theorem next_side {l : Bool} {t : Str} {c : Nat} : nextP w t (sideP l) c = if isTerm w t = true then (behP l, c + 1) else (.bad, 0) := by
  cases l
  · exact next_right
  · exact next_left
theorem op_sign : ∀ t : Str, isOp t = true → t ∉ signs6 := fun t h => by
  unfold isOp at h
  simp only [decide_eq_true_eq] at h
  rcases h with rfl | rfl <;> decide +kernel
theorem next_beh {l : Bool} {t : Str} {c : Nat} (h : isOp t = true) (hc : c < 5) : nextP w t (behP l) c = (sideP l, c) := by
  cases l
  · show nextP w t .bright c = _
    rw [next_bright, if_pos ⟨h, hc⟩]; rfl
  · show nextP w t .bleft c = _
    rw [next_bleft, if_neg (op_sign t h), if_pos ⟨h, hc⟩]; rfl
theorem side_bad {l : Bool} : ¬ sideP l = .bad := by cases l <;> simp [sideP]
theorem beh_bad {l : Bool} : ¬ behP l = .bad := by cases l <;> simp [behP]
theorem side_acc {l : Bool} : accP (sideP l) = false := by cases l <;> rfl
/-- no operator that may stand there comes next -/
def NoOp (toks : List Str) (c m : Nat) : Prop := m ≤ toks.length ∧ (m < toks.length → isOp (pk toks m) = false ∨ c = 5)
theorem sum_run (hw : WdOk w) {l : Bool} : ∀ (m n : Nat) (f : Int) (acc : Terms), acc.length + m = 5 → 0 < m → n ≤ toks.length →
    (∀ e, readS w.names toks m n f acc = (none, e) → RP w toks (sideP l) acc.length n = some e) ∧ ∀ ts k, readS w.names toks m n f acc = (some ts, k) → RP w toks (sideP l) acc.length n = RP w toks (behP l) ts.length k ∧ NoOp toks ts.length k ∧ n < k
  | 0, _, _, _, _, h, _ => absurd h (by decide)
  | m + 1, n, f, acc, h5, _, hn => by
    have hg : toks.getD n "" = pk toks n := rfl
    rcases Nat.lt_or_ge n toks.length with hlt | hge
    · unfold readS
      rw [hg]
      cases ht : termOf w.names (pk toks n) with
      | none =>
        have hT : ¬ isTerm w (pk toks n) = true := by rw [term_of, ht]; exact Bool.false_ne_true
        refine ⟨fun e he => ?_, fun ts k he => by cases he⟩
        cases he
        rw [rp_step hlt, next_side, if_neg hT, if_pos rfl]
      | some t =>
        have hT : isTerm w (pk toks n) = true := by rw [term_of, ht]; rfl
        have e1 : RP w toks (sideP l) acc.length n = RP w toks (behP l) (acc.length + 1) (n + 1) := by
          rw [rp_step hlt, next_side, if_pos hT, if_neg beh_bad]
        dsimp only
        rw [e1]
        split
        · rename_i hs
          refine ⟨(fun e he => by cases he), fun ts k he => ?_⟩
          cases he
          refine ⟨by rw [List.length_append, List.length_singleton], ⟨by omega, fun hk => ?_⟩, by omega⟩
          rw [List.length_append, List.length_singleton]
          rcases hs with hs | hs | hs
          · omega
          · exact .inl hs
          · exact .inr hs
        · rename_i hs
          have hs1 : n + 1 < toks.length := by
            rcases Nat.lt_or_ge (n + 1) toks.length with q | q
            · exact q
            · exact absurd (Or.inl q) hs
          have hs2 : isOp (pk toks (n + 1)) = true := by
            cases q : isOp (pk toks (n + 1)) with
            | true => rfl
            | false => exact absurd (Or.inr (Or.inl q)) hs
          have hs3 : acc.length + 1 ≠ 5 := fun z => hs (.inr (.inr z))
          have e2 : RP w toks (behP l) (acc.length + 1) (n + 1) = RP w toks (sideP l) (acc.length + 1) (n + 2) := by
            rw [rp_step hs1, next_beh hs2 (by omega), if_neg side_bad]
          rw [e2]
          have ih := sum_run hw (l := l) m (n + 2) (signOf (toks.getD (n + 1) "")) (acc ++ [(f, t)]) (by rw [List.length_append, List.length_singleton]; omega) (by omega) (by omega)
          rw [List.length_append, List.length_singleton] at ih
          refine ⟨ih.1, fun ts k he => ?_⟩
          obtain ⟨a1, a2, a3⟩ := ih.2 ts k he
          exact ⟨a1, a2, by omega⟩
    · have hT : termOf w.names (pk toks n) = none := by
        have := term_no hw nw_not.1
        rw [← pk_out hge, term_of] at this
        cases e : termOf w.names (pk toks n) with
        | none => rfl
        | some t => rw [e] at this; cases this
      unfold readS
      rw [hg, hT]
      refine ⟨fun e he => ?_, fun ts k he => by cases he⟩
      cases he
      rw [rp_end hge, side_acc, if_neg Bool.false_ne_true]
theorem sumR_run (hw : WdOk w) {l : Bool} {n : Nat} (hn : n ≤ toks.length) : (∀ e, sumR w.names toks n = .error e → RP w toks (sideP l) 0 n = some e) ∧ ∀ ts k, sumR w.names toks n = .ok (ts, k) → RP w toks (sideP l) 0 n = RP w toks (behP l) ts.length k ∧ NoOp toks ts.length k ∧ n < k := by
  have h := sum_run hw (l := l) (toks := toks) 5 n 1 [] rfl (by decide) hn
  unfold sumR
  rcases e : readS w.names toks 5 n 1 [] with ⟨_ | ts, k⟩
  · exact ⟨(fun e' he => by cases he; exact h.1 _ e), (fun ts k he => by cases he)⟩
  · exact ⟨(fun e' he => by cases he), (fun ts k he => by cases he; exact h.2 _ _ e)⟩
/-- behind an atom, at m -/
def Aft (w : Wds) (toks : List Str) (r : Option Nat) (m : Nat) : Prop := ∃ p c, r = RP w toks p c m ∧ m ≤ toks.length ∧ (p = .joined ∨ (p = .bright ∧ NoOp toks c m))
theorem aft_go {r : Option Nat} {m : Nat} (h : Aft w toks r m) (hs : pk toks m = "and" ∨ pk toks m = "or") : m < toks.length ∧ r = RP w toks .atom 0 (m + 1) := by
  obtain ⟨p, c, rfl, hm, hp⟩ := h
  have hlt : m < toks.length := by
    rcases hs with hs | hs
    · exact pk_lt hs (by decide +kernel)
    · exact pk_lt hs (by decide +kernel)
  have key : (¬ isOp ("and" : Str) = true) ∧ ¬ isOp ("or" : Str) = true := by decide +kernel
  have hno : ¬ isOp (pk toks m) = true := by
    rcases hs with hs | hs
    · rw [hs]; exact key.1
    · rw [hs]; exact key.2
  refine ⟨hlt, ?_⟩
  rcases hp with rfl | ⟨rfl, _⟩
  · rw [rp_step hlt, next_joined, if_pos hs, if_neg (by simp)]
  · have nz : ¬ (isOp (pk toks m) = true ∧ c < 5) := fun z => hno z.1
    rw [rp_step hlt, next_bright, if_neg nz, if_pos hs, if_neg (by simp)]
theorem aft_stop {r : Option Nat} {m : Nat} (h : Aft w toks r m) (h1 : pk toks m ≠ "and") (h2 : pk toks m ≠ "or") : r = if m < toks.length then some m else none := by
  obtain ⟨p, c, rfl, hm, hp⟩ := h
  rcases Nat.lt_or_ge m toks.length with hlt | hge
  · rw [if_pos hlt]
    have hs : ¬ (pk toks m = "and" ∨ pk toks m = "or") := fun z => z.elim h1 h2
    rcases hp with rfl | ⟨rfl, _, hno⟩
    · rw [rp_step hlt, next_joined, if_neg hs, if_pos rfl]
    · have nz : ¬ (isOp (pk toks m) = true ∧ c < 5) := by
        rintro ⟨z1, z2⟩
        rcases hno hlt with q | q
        · rw [q] at z1; cases z1
        · omega
      rw [rp_step hlt, next_bright, if_neg nz, if_neg hs, if_pos rfl]
  · rw [if_neg (by omega), rp_end hge]
    rcases hp with rfl | ⟨rfl, _⟩ <;> rfl
theorem nots_run : ∀ (f n : Nat) (b : Bool), n ≤ toks.length → toks.length < n + f → RP w toks .atom 0 n = RP w toks .atom 0 (nots toks f n b).1 ∧ (nots toks f n b).1 ≤ toks.length ∧ pk toks (nots toks f n b).1 ≠ "not"
  | 0, n, b, h, h2 => absurd h2 (by omega)
  | f + 1, n, b, h, h2 => by
    unfold nots
    by_cases q : pk toks n = "not"
    · have hlt := pk_lt q (by decide +kernel)
      rw [if_pos q]
      obtain ⟨a1, a2, a3⟩ := nots_run f (n + 1) (!b) (by omega) (by omega)
      refine ⟨?_, a2, a3⟩
      rw [← a1, rp_step hlt]
      have : nextP w (pk toks n) .atom 0 = (.atom, 0) := by unfold nextP; rw [if_pos ⟨rfl, q⟩]
      rw [this, if_neg (by simp)]
    · rw [if_neg q]
      exact ⟨rfl, h, q⟩
theorem one_mem {hd t : Str} : t ∈ (if hd = "" then [] else [hd]) ↔ hd ≠ "" ∧ t = hd := by
  by_cases h : hd = ""
  · rw [if_pos h]; simp [h]
  · rw [if_neg h]; simp [h]
theorem one_ne {hd : Str} : (if hd = "" then ([] : List Str) else [hd]) ≠ [] ↔ hd ≠ "" := by
  by_cases h : hd = ""
  · rw [if_pos h]; simp [h]
  · rw [if_neg h]; simp [h]
theorem res_ok {α : Type} {X : Except Nat (α × Nat)} {a : α} {k : Nat} {A : Nat → Prop} {B : Nat → Prop} (h : X = .ok (a, k)) (hb : B k) : (∀ e, X = .error e → A e) ∧ ∀ a k, X = .ok (a, k) → B k := by
  subst h
  exact ⟨(fun e he => by cases he), (fun a k he => by cases he; exact hb)⟩
theorem res_er {α : Type} {X : Except Nat (α × Nat)} {e : Nat} {A : Nat → Prop} {B : Nat → Prop} (h : X = .error e) (ha : A e) : (∀ e, X = .error e → A e) ∧ ∀ a k, X = .ok (a, k) → B k := by
  subst h
  exact ⟨(fun e he => by cases he; exact ha), (fun a k he => by cases he)⟩
theorem atomB_run (hw : WdOk w) {b : Bool} {n : Nat} (hn : n ≤ toks.length) (hq : pk toks n ≠ "not") :
    (∀ e, atomB (wds w toks) b n = .error e → RP w toks .atom 0 n = some e) ∧ ∀ a k, atomB (wds w toks) b n = .ok (a, k) → (Aft w toks (RP w toks .atom 0 n) k ∧ n < k) := by
  have kk : (¬ ("" : Str) ∈ (["none", "live"] : List Str)) ∧ (¬ ("" : Str) ∈ (["open"] : List Str)) := by decide +kernel
  by_cases c1 : pk (wds w toks).toks n ∈ (["none", "live"] : List Str) ∧ (wds w toks).hs ≠ []
  · have c1a : pk toks n ∈ (["none", "live"] : List Str) := c1.1
    have hlt : n < toks.length := by
      rcases Nat.lt_or_ge n toks.length with q | q
      · exact q
      · exact absurd c1a (by rw [pk_out q]; exact kk.1)
    have hd := one_ne.mp c1.2
    have hnx : nextP w (pk toks n) .atom 0 = (.handle, 0) := by
      unfold nextP
      rw [if_neg (fun z => hq z.2), if_pos ⟨rfl, by simpa using c1a, hd⟩]
    have e1 : RP w toks .atom 0 n = RP w toks .handle 0 (n + 1) := by rw [rp_step hlt, hnx, if_neg (by simp)]
    rw [e1]
    by_cases c2 : pk (wds w toks).toks (n + 1) ∈ (wds w toks).hs
    · have hx : pk toks (n + 1) = w.hd := (one_mem.mp c2).2
      have hlt2 := pk_lt hx hd
      refine res_ok (a := .word b (pk toks n) (pk toks (n + 1))) (k := n + 2) ?_ ⟨⟨.joined, 0, ?_, by omega, .inl rfl⟩, by omega⟩
      · unfold atomB takeR
        rw [if_pos c1, if_pos c2]
        rfl
      · rw [rp_step hlt2, next_handle, if_pos hx, if_neg (by simp)]
    · refine res_er (e := n + 1) ?_ ?_
      · unfold atomB takeR
        rw [if_pos c1, if_neg c2]
      · rcases Nat.lt_or_ge (n + 1) toks.length with q | q
        · have nz : ¬ pk toks (n + 1) = w.hd := fun z => c2 (one_mem.mpr ⟨hd, z⟩)
          rw [rp_step q, next_handle, if_neg nz, if_pos rfl]
        · rw [rp_end q]; rfl
  · by_cases c2 : pk (wds w toks).toks n ∈ (["open"] : List Str) ∧ (wds w toks).rs ≠ []
    · have c2a : pk toks n ∈ (["open"] : List Str) := c2.1
      have hlt : n < toks.length := by
        rcases Nat.lt_or_ge n toks.length with q | q
        · exact q
        · exact absurd c2a (by rw [pk_out q]; exact kk.2)
      have hd := one_ne.mp c2.2
      have ho : pk toks n = "open" := by simpa using c2a
      have hno : ¬ (("open" : Str) = "none" ∨ ("open" : Str) = "live") := by decide +kernel
      have hnx : nextP w (pk toks n) .atom 0 = (.request, 0) := by
        unfold nextP
        rw [if_neg (fun z => hq z.2), if_neg (fun z => hno (by rw [← ho]; exact z.2.1)), if_pos ⟨rfl, ho, hd⟩]
      have e1 : RP w toks .atom 0 n = RP w toks .request 0 (n + 1) := by rw [rp_step hlt, hnx, if_neg (by simp)]
      rw [e1]
      by_cases c3 : pk (wds w toks).toks (n + 1) ∈ (wds w toks).rs
      · have hx : pk toks (n + 1) = w.rq := (one_mem.mp c3).2
        have hlt2 := pk_lt hx hd
        refine res_ok (a := .word b (pk toks n) (pk toks (n + 1))) (k := n + 2) ?_ ⟨⟨.joined, 0, ?_, by omega, .inl rfl⟩, by omega⟩
        · unfold atomB takeR
          rw [if_neg c1, if_pos c2, if_pos c3]
          rfl
        · rw [rp_step hlt2, next_request, if_pos hx, if_neg (by simp)]
      · refine res_er (e := n + 1) ?_ ?_
        · unfold atomB takeR
          rw [if_neg c1, if_pos c2, if_neg c3]
        · rcases Nat.lt_or_ge (n + 1) toks.length with q | q
          · have nz : ¬ pk toks (n + 1) = w.rq := fun z => c3 (one_mem.mpr ⟨hd, z⟩)
            rw [rp_step q, next_request, if_neg nz, if_pos rfl]
          · rw [rp_end q]; rfl
    · have hpl : Plain w (pk toks n) := ⟨hq, fun z => c1 ⟨by show pk toks n ∈ _; simpa using z.1, one_ne.mpr z.2⟩, fun z => c2 ⟨by show pk toks n ∈ _; simpa using z.1, one_ne.mpr z.2⟩⟩
      have e0 : RP w toks .atom 0 n = RP w toks .left 0 n := by
        rcases Nat.lt_or_ge n toks.length with q | q
        · rw [rp_step q, rp_step q, next_atom hpl, next_left]
        · rw [rp_end q, rp_end q]; rfl
      rw [e0]
      have s1 := sumR_run hw (l := true) (toks := toks) hn
      rcases x1 : sumR w.names toks n with e | ⟨t1, m1⟩
      · refine res_er (e := e) ?_ (s1.1 _ x1)
        unfold atomB
        rw [if_neg c1, if_neg c2, show sumR (wds w toks).names (wds w toks).toks n = _ from x1]
      · obtain ⟨a1, ⟨a2, a3⟩, a4⟩ := s1.2 _ _ x1
        have a1 : RP w toks .left 0 n = RP w toks .bleft t1.length m1 := a1
        rw [a1]
        by_cases c4 : pk (wds w toks).toks m1 ∈ signs6
        · have hlt2 : m1 < toks.length := by
            rcases Nat.lt_or_ge m1 toks.length with q | q
            · exact q
            · have c4 : pk toks m1 ∈ signs6 := c4
              rw [pk_out q] at c4
              exact absurd c4 (by decide +kernel)
          have c4' : pk toks m1 ∈ signs6 := c4
          have e2 : RP w toks .bleft t1.length m1 = RP w toks .right 0 (m1 + 1) := by rw [rp_step hlt2, next_bleft, if_pos c4', if_neg (by simp)]
          rw [e2]
          have s2 := sumR_run hw (l := false) (toks := toks) (n := m1 + 1) (by omega)
          rcases x2 : sumR w.names toks (m1 + 1) with e | ⟨t2, m2⟩
          · refine res_er (e := e) ?_ (s2.1 _ x2)
            unfold atomB takeR
            rw [if_neg c1, if_neg c2, show sumR (wds w toks).names (wds w toks).toks n = _ from x1]
            dsimp only
            rw [if_pos c4]
            dsimp only
            rw [show sumR (wds w toks).names (wds w toks).toks (m1 + 1) = _ from x2]
          · obtain ⟨b1, b2, b3⟩ := s2.2 _ _ x2
            refine res_ok (a := .cmp b (pk toks m1) t1 t2) (k := m2) ?_ ⟨⟨.bright, t2.length, b1, b2.1, .inr ⟨rfl, b2⟩⟩, by omega⟩
            unfold atomB takeR
            rw [if_neg c1, if_neg c2, show sumR (wds w toks).names (wds w toks).toks n = _ from x1]
            dsimp only
            rw [if_pos c4]
            dsimp only
            rw [show sumR (wds w toks).names (wds w toks).toks (m1 + 1) = _ from x2]
            rfl
        · refine res_er (e := m1) ?_ ?_
          · unfold atomB takeR
            rw [if_neg c1, if_neg c2, show sumR (wds w toks).names (wds w toks).toks n = _ from x1]
            dsimp only
            rw [if_neg c4]
          · rcases Nat.lt_or_ge m1 toks.length with q | q
            · have nz : ¬ (isOp (pk toks m1) = true ∧ t1.length < 5) := by
                rintro ⟨z1, z2⟩
                rcases a3 q with y | y
                · rw [y] at z1; cases z1
                · omega
              have c4' : ¬ pk toks m1 ∈ signs6 := c4
              rw [rp_step q, next_bleft, if_neg c4', if_neg nz, if_pos rfl]
            · rw [rp_end q]; rfl
theorem atomR_run (hw : WdOk w) {n : Nat} (hn : n ≤ toks.length) :
    (∀ e, atomR (wds w toks) n = .error e → RP w toks .atom 0 n = some e) ∧ ∀ a k, atomR (wds w toks) n = .ok (a, k) → Aft w toks (RP w toks .atom 0 n) k ∧ n < k := by
  have hnt := nots_run (w := w) (toks := toks) (toks.length + 1) n true hn (by omega)
  have hge := nots_ge (toks := toks) (toks.length + 1) n true
  unfold atomR
  show (∀ e, atomB (wds w toks) (nots toks (toks.length + 1) n true).2 (nots toks (toks.length + 1) n true).1 = .error e → _) ∧ ∀ a k, atomB (wds w toks) (nots toks (toks.length + 1) n true).2 (nots toks (toks.length + 1) n true).1 = .ok (a, k) → _
  rw [hnt.1]
  have h := atomB_run hw (b := (nots toks (toks.length + 1) n true).2) hnt.2.1 hnt.2.2
  refine ⟨h.1, fun a k he => ?_⟩
  have := h.2 a k he
  exact ⟨this.1, by omega⟩
theorem moreR_run {α : Type} {sep : Str} {one : Nat → Except Nat (α × Nat)} {Stop : Nat → Prop} (hsep : sep = "and" ∨ sep = "or") (h1 : ∀ n, n ≤ toks.length → (∀ e, one n = .error e → RP w toks .atom 0 n = some e) ∧ ∀ a k, one n = .ok (a, k) → Aft w toks (RP w toks .atom 0 n) k ∧ n < k ∧ Stop k) {r : Option Nat} : ∀ (f : Nat) (acc : List α) (n : Nat), toks.length < n + f → Aft w toks r n → Stop n →
    (∀ e, moreR sep one toks f acc n = .error e → r = some e) ∧ ∀ xs k, moreR sep one toks f acc n = .ok (xs, k) → Aft w toks r k ∧ n ≤ k ∧ pk toks k ≠ sep ∧ Stop k
  | 0, acc, n, h, ha, _ => by
    obtain ⟨p, c, _, hm, _⟩ := ha
    omega
  | f + 1, acc, n, h, ha, hst => by
    unfold moreR
    by_cases q : pk toks n = sep
    · rw [if_pos q]
      obtain ⟨hlt, e1⟩ := aft_go ha (by rw [q]; exact hsep)
      have o := h1 (n + 1) (by omega)
      rcases x : one (n + 1) with e | ⟨a, m⟩
      · exact ⟨(fun e' he => by cases he; rw [e1]; exact o.1 _ x), (fun xs k he => by cases he)⟩
      · obtain ⟨b1, b2, b3⟩ := o.2 _ _ x
        rw [← e1] at b1
        have ih := moreR_run hsep h1 (r := r) f (acc ++ [a]) m (by omega) b1 b3
        refine ⟨ih.1, fun xs k he => ?_⟩
        obtain ⟨c1, c2, c3⟩ := ih.2 xs k he
        exact ⟨c1, by omega, c3⟩
    · rw [if_neg q]
      exact ⟨(fun e he => by cases he), (fun xs k he => by cases he; exact ⟨ha, Nat.le_refl _, q, hst⟩)⟩
theorem manyR_run {α : Type} {sep : Str} {one : Nat → Except Nat (α × Nat)} {Stop : Nat → Prop} (hsep : sep = "and" ∨ sep = "or") (h1 : ∀ n, n ≤ toks.length → (∀ e, one n = .error e → RP w toks .atom 0 n = some e) ∧ ∀ a k, one n = .ok (a, k) → Aft w toks (RP w toks .atom 0 n) k ∧ n < k ∧ Stop k) {n : Nat} (hn : n ≤ toks.length) :
    (∀ e, manyR sep one toks n = .error e → RP w toks .atom 0 n = some e) ∧ ∀ xs k, manyR sep one toks n = .ok (xs, k) → Aft w toks (RP w toks .atom 0 n) k ∧ n < k ∧ pk toks k ≠ sep ∧ Stop k := by
  unfold manyR
  have o := h1 n hn
  rcases x : one n with e | ⟨a, m⟩
  · exact ⟨(fun e' he => by cases he; exact o.1 _ x), (fun xs k he => by cases he)⟩
  · obtain ⟨b1, b2, b3⟩ := o.2 _ _ x
    have ih := moreR_run hsep h1 (r := RP w toks .atom 0 n) (toks.length + 1) [a] m (by omega) b1 b3
    refine ⟨ih.1, fun xs k he => ?_⟩
    obtain ⟨c1, c2, c3⟩ := ih.2 xs k he
    exact ⟨c1, by omega, c3⟩
theorem initC_run (hw : WdOk w) : (match initC (wds w toks) with | .ok _ => none | .error e => some e) = RP w toks .atom 0 0 := by
  have hp : ∀ n, n ≤ toks.length → (∀ e, partR (wds w toks) n = .error e → RP w toks .atom 0 n = some e) ∧ ∀ a k, partR (wds w toks) n = .ok (a, k) → Aft w toks (RP w toks .atom 0 n) k ∧ n < k ∧ pk toks k ≠ "and" := fun n hn => by
    have := manyR_run (w := w) (toks := toks) (sep := "and") (one := atomR (wds w toks)) (Stop := fun _ => True) (.inl rfl) (fun n hn => ⟨(atomR_run hw hn).1, fun a k h => ⟨((atomR_run hw hn).2 a k h).1, ((atomR_run hw hn).2 a k h).2, trivial⟩⟩) hn
    exact ⟨this.1, fun a k h => ⟨(this.2 a k h).1, (this.2 a k h).2.1, (this.2 a k h).2.2.1⟩⟩
  have hc := manyR_run (w := w) (toks := toks) (sep := "or") (one := partR (wds w toks)) (Stop := fun k => pk toks k ≠ "and") (.inr rfl) hp (n := 0) (Nat.zero_le _)
  unfold initC
  have hc : (∀ e, condR (wds w toks) 0 = .error e → RP w toks .atom 0 0 = some e) ∧ ∀ xs k, condR (wds w toks) 0 = .ok (xs, k) → Aft w toks (RP w toks .atom 0 0) k ∧ 0 < k ∧ pk toks k ≠ "or" ∧ pk toks k ≠ "and" := hc
  rcases x : condR (wds w toks) 0 with e | ⟨ps, m⟩
  · exact (hc.1 _ x).symm
  · obtain ⟨a1, a2, a3, a4⟩ := hc.2 _ _ x
    have st := aft_stop a1 a4 a3
    show (match (if m < toks.length then Except.error m else .ok ps) with | .ok _ => none | .error e => some e) = _
    rw [st]
    by_cases q : m < toks.length
    · rw [if_pos q, if_pos q]
    · rw [if_neg q, if_neg q]
end


theorem tl_mk (s : Str) : (⟨(TL.tl s).toArray⟩ : Str) = s := str_eq rfl
theorem map_tl {a b : List Str} (h : a.map TL.tl = b.map TL.tl) : a = b := by
  have e : ∀ l : List Str, (l.map TL.tl).map (fun x => (⟨x.toArray⟩ : Str)) = l := fun l => by
    rw [List.map_map]
    conv => rhs; rw [← List.map_id l]
    exact List.map_congr_left fun s _ => tl_mk s
  rw [← e a, ← e b, h]
theorem join_tl (s : Str) : ∀ toks : List Str, TL.tl (Str.join s toks) = TL.joinL (TL.tl s) (toks.map TL.tl)
  | [] => rfl
  | [x] => rfl
  | x :: y :: r => by
    rw [join_cons2]
    have ih := join_tl s (y :: r)
    show (x ++ s ++ Str.join s (y :: r)).cps.toList = x.cps.toList ++ (s.cps.toList ++ TL.joinL (TL.tl s) ((y :: r).map TL.tl))
    rw [← ih, Str.cps_append, Str.cps_append]
    simp
theorem split_join {s : Str} {c : Nat} {r : List Nat} (hs : TL.tl s = c :: r) (h256 : ∀ x ∈ TL.tl s, x < 256) {toks : List Str} (h0 : toks ≠ []) (h : ∀ t ∈ toks, c ∉ TL.tl t) : Txt.split (Str.join s toks) s = toks := by
  refine map_tl ?_
  have hk : Builtin.Str.strKind s = 1 := by
    unfold Builtin.Str.strKind
    rw [if_pos]
    rw [← Array.all_toList, List.all_eq_true]
    intro x hx
    exact decide_eq_true (h256 x hx)
  have hk2 : ¬ Builtin.Str.strKind (Str.join s toks) < Builtin.Str.strKind s := by
    rw [hk]
    unfold Builtin.Str.strKind
    split
    · omega
    · split <;> omega
  rw [TL.split_spl _ _ (by rw [hs]; simp) hk2, join_tl, hs]
  exact TL.spl_join (by simp [h0]) fun p hp => by
    obtain ⟨t, ht, rfl⟩ := List.mem_map.mp hp
    exact h t ht
theorem split_spc {toks : List Str} (h0 : toks ≠ []) (h : ∀ t ∈ toks, Tk t) : Txt.split (spc toks) " " = toks :=
  split_join (c := 32) (r := []) (by decide +kernel) (by decide +kernel) h0 fun t ht z => by
    have := (h t ht).2 32 z
    omega


def plS : Pl → Str
  | .atom => "atom" | .left => "left" | .right => "right" | .bleft => "behind left" | .bright => "behind right" | .handle => "handle" | .request => "request" | .joined => "joined" | .bad => ""
def wdD (w : Wds) : PyData := .tuple [.list (w.names.map PyData.str), .str w.hd, .str w.rq]
def begK : List (Key × V) := [(.inr "not", .str "atom"), (.inr "none", .str "handle"), (.inr "live", .str "handle"), (.inr "open", .str "request")]
def hrK (w : Wds) : List (Key × V) := [(.inr "handle", .str w.hd), (.inr "request", .str w.rq)]
theorem plS_eq : ∀ p q : Pl, plS p = plS q → p = q := by
  intro p q
  cases p <;> cases q <;> first | (intro _; rfl) | (intro h; exact absurd h (by decide +kernel))
theorem kw_ne : (("not" : Str) ≠ "none" ∧ ("not" : Str) ≠ "live" ∧ ("not" : Str) ≠ "open") ∧ (("none" : Str) ≠ "live" ∧ ("none" : Str) ≠ "open") ∧ ("live" : Str) ≠ "open" ∧ ("handle" : Str) ≠ "request" ∧ ("handle" : Str) ≠ "atom" ∧ ("request" : Str) ≠ "atom" := by decide +kernel
theorem inr_ne {a b : Str} (h : a ≠ b) : ¬ (Sum.inr a : Key) = Sum.inr b := fun z => h (Sum.inr.inj z)
theorem begK_eq : mergeK [] begK = begK := by
  obtain ⟨⟨a1, a2, a3⟩, ⟨b1, b2⟩, c1, _⟩ := kw_ne
  simp [begK, mergeK, putK, inr_ne a1, inr_ne a2, inr_ne a3, inr_ne b1, inr_ne b2, inr_ne c1]
theorem hrK_eq {w : Wds} : mergeK [] (hrK w) = hrK w := by
  obtain ⟨_, _, _, d1, _⟩ := kw_ne
  simp [hrK, mergeK, putK, inr_ne d1]
theorem hrK_val {w : Wds} : valV (mergeK [] (hrK w)) (.inr "handle") = some (.str w.hd) ∧ valV (mergeK [] (hrK w)) (.inr "request") = some (.str w.rq) ∧ valV (mergeK [] (hrK w)) (.inr "atom") = none := by
  obtain ⟨_, _, _, d1, d2, d3⟩ := kw_ne
  rw [hrK_eq]
  exact ⟨by simp [hrK, valV], by simp [hrK, valV, inr_ne d1], by simp [hrK, valV, inr_ne d2, inr_ne d3]⟩
theorem begK_val (t : Str) : (t = "not" ∧ valV (mergeK [] begK) (.inr t) = some (.str "atom")) ∨ ((t = "none" ∨ t = "live") ∧ valV (mergeK [] begK) (.inr t) = some (.str "handle")) ∨ (t = "open" ∧ valV (mergeK [] begK) (.inr t) = some (.str "request")) ∨ ((t ≠ "not" ∧ t ≠ "none" ∧ t ≠ "live" ∧ t ≠ "open") ∧ valV (mergeK [] begK) (.inr t) = none) := by
  obtain ⟨⟨a1, a2, a3⟩, ⟨b1, b2⟩, c1, _⟩ := kw_ne
  rw [begK_eq]
  by_cases h1 : t = "not"
  · subst h1; exact .inl ⟨rfl, by simp [begK, valV]⟩
  by_cases h2 : t = "none"
  · subst h2; exact .inr (.inl ⟨.inl rfl, by simp [begK, valV, inr_ne a1]⟩)
  by_cases h3 : t = "live"
  · subst h3; exact .inr (.inl ⟨.inr rfl, by simp [begK, valV, inr_ne a2, inr_ne b1]⟩)
  by_cases h4 : t = "open"
  · subst h4; exact .inr (.inr (.inl ⟨rfl, by simp [begK, valV, inr_ne a3, inr_ne b2, inr_ne c1]⟩))
  exact .inr (.inr (.inr ⟨⟨h1, h2, h3, h4⟩, by simp [begK, valV, inr_ne (Ne.symm h1), inr_ne (Ne.symm h2), inr_ne (Ne.symm h3), inr_ne (Ne.symm h4)]⟩))
theorem pl_at {p q : Pl} {s : Str} (h : plS q = s) : plS p = s ↔ p = q := ⟨fun z => plS_eq _ _ (z.trans h.symm), fun z => by rw [z]; exact h⟩
theorem cells3 {W : List Addr} {H : Hp} {xs : List V} {d : PyData} {s t : Str} (h : DfAll W H xs [d, .str s, .str t]) : ∃ v, xs = [v, .str s, .str t] ∧ Df W H v d := by
  cases h with
  | cons h1 r =>
    cases r with
    | cons h2 r =>
      cases r with
      | cons h3 r =>
        cases r
        rw [h2.isStr, h3.isStr]
        exact ⟨_, rfl, h1⟩

def sp_law_next (K : PySem.W.Frag) : Sp := fun vs H Q _ => ∃ (W : List Addr) (t : Str) (p : Pl) (c : Nat) (wp : Addr) (w : Wds), vs = [.str t, .str (plS p), .int (c : Nat), .ref wp] ∧ Df W H (.ref wp) (wdD w) ∧ Wl W H ∧ t.length ≤ 100 ∧ (∀ x ∈ t.cps.toList, x ≤ 127) ∧
  ∀ q H', Ed [] H H' → Df W H' (.ref q) (.tuple [.str (plS (nextP w t p c).1), .int ((nextP w t p c).2 : Nat)]) → Q (.ref q) H'

def wrI (w : Wds) (toks : List Str) : Int := match RP w toks .atom 0 0 with
  | none => -1
  | some e => (e : Nat)
def Asc (t : Str) : Prop := t.length ≤ 40 ∧ ∀ c ∈ t.cps.toList, c ≤ 127
theorem cellsSI {W : List Addr} {H : Hp} {xs : List V} {s : Str} {n : Int} (h : DfAll W H xs [.str s, .int n]) : xs = [.str s, .int n] := by
  obtain ⟨v, rfl, h2⟩ := cells2 h
  rw [h2.isInt]

def sp_law_wrong (K : PySem.W.Frag) : Sp := fun vs H Q _ => ∃ (W : List Addr) (p wp : Addr) (toks : List Str) (w : Wds), vs = [.ref p, .ref wp] ∧ Df W H (.ref p) (.list (toks.map PyData.str)) ∧ Df W H (.ref wp) (wdD w) ∧ Wl W H ∧ (∀ t ∈ toks, Asc t) ∧ ∀ H', Ed [] H H' → Q (.int (wrI w toks)) H'

def oneL (s : Str) : List Str := if s = "" then [] else [s]
def oneD (s : Str) : PyData := .list ((oneL s).map PyData.str)

def sp_law_told (K : PySem.W.Frag) : Sp := fun vs H Q _ => ∃ (W : List Addr) (text : Str) (wp : Addr) (toks : List Str) (w : Wds), vs = [.str text, .ref wp] ∧ Df W H (.ref wp) (wdD w) ∧ Wl W H ∧ WdOk w ∧ Txt.words text = toks ∧ text.length ≤ 10000 ∧ ∀ H', Ed [] H H' → Q (.int (wrI w toks)) H'

def TokOk (t : Str) : Prop := Tk t ∧ t.length ≤ 20
theorem TokOk.asc {t : Str} (h : TokOk t) : Asc t := ⟨by have := h.2; omega, fun c hc => by have := h.1.2 c hc; omega⟩
theorem tok_by {t : Str} (h : (decide (t.length ≤ 20) && (!t.cps.toList.isEmpty && t.cps.toList.all fun c => decide (33 ≤ c) && decide (c ≤ 126))) = true) : TokOk t := by
  rw [Bool.and_eq_true] at h
  exact ⟨tk_by h.2, of_decide_eq_true h.1⟩
/-- words of which each may be a token -/
def WdT (w : Wds) : Prop := (∀ t ∈ w.names, TokOk t) ∧ w.names.length ≤ 10 ∧ (w.hd.length ≤ 8 ∧ Tk w.hd) ∧ (w.rq.length ≤ 8 ∧ Tk w.rq)
theorem tokA {t : Str} (h : Tk t) (hl : t.length ≤ 8) : TokOk (t ++ "a") := by
  refine ⟨⟨?_, fun c hc => ?_⟩, ?_⟩
  · rw [Str.cps_append, Array.toList_append]
    simp [h.1]
  · rw [Str.cps_append, Array.toList_append] at hc
    rcases List.mem_append.mp hc with hc | hc
    · exact h.2 c hc
    · have : ("a" : Str).cps.toList = [97] := by decide +kernel
      rw [this] at hc
      simp at hc
      omega
  · rw [Str.length_append, show (("a" : Str)).length = 1 from rfl]; omega
theorem cut_strs (toks : List Str) (lo hi : Option Int) : ∃ ts : List Str, cutD (toks.map PyData.str) lo hi = ts.map PyData.str ∧ (∀ t ∈ ts, t ∈ toks) ∧ ts.length ≤ toks.length := by
  unfold cutD
  refine ⟨(toks.drop (HT.sIx (toks.map PyData.str).length 0 lo)).take (HT.sIx (toks.map PyData.str).length (toks.map PyData.str).length hi - HT.sIx (toks.map PyData.str).length 0 lo), ?_, fun t ht => List.mem_of_mem_drop (List.mem_of_mem_take ht), ?_⟩
  · rw [List.map_take, List.map_drop]
  · rw [List.length_take, List.length_drop]; omega
def odds : List Str := ["not", "none", "live", "open", "and", "or", "+", "-", "=", "<=", "==", "07", "5", "over", "(", "a"]
theorem odds_ok : ∀ t ∈ odds, TokOk t := fun t ht => tok_by (by
  revert t
  decide +kernel)

def sp_law_spoiled (K : PySem.W.Frag) : Sp := fun vs H Q _ => ∃ (W : List Addr) (b p wp : Addr) (toks : List Str) (w : Wds), vs = [.ref b, .ref p, .ref wp] ∧ Bag H b ∧ b ∈ W ∧ Wl W H ∧ Df W H (.ref p) (.list (toks.map PyData.str)) ∧ Df W H (.ref wp) (wdD w) ∧ (∀ t ∈ toks, TokOk t) ∧ toks.length ≤ 1000 ∧ WdT w ∧
  ∀ (q : Addr) (ts : List Str) (H' : Hp), Ed [b] H H' → Bag H' b → Df W H' (.ref q) (.list (ts.map PyData.str)) → (∀ t ∈ ts, TokOk t) → ts.length ≤ 2 * toks.length + 1 → Q (.ref q) H'

theorem tok_num {d : Int} (h : 0 ≤ d ∧ d < 1000) : TokOk (numT d) := ⟨num_tk h.1 h.2, by have := (num_ok h.1 h.2).2.2.1; omega⟩
theorem sumT_tok {names : List Str} (hn : ∀ t ∈ names, TokOk t) {ts : Terms} (h : TsW names 2 ts) : (∀ t ∈ sumT ts, TokOk t) ∧ (sumT ts).length ≤ 3 := by
  obtain ⟨h0, h1, h2, h3⟩ := h
  have tm : ∀ t ∈ ts, TokOk t.2.tok := fun t ht => by
    have := (h2 t ht).1
    cases e : t.2 with
    | num n => rw [e] at this; exact tok_num this
    | nam s => rw [e] at this; exact hn s this
  have op : ∀ f : Int, TokOk (opT f) := fun f => by
    unfold opT
    split <;> exact tok_by (by decide +kernel)
  match ts, h0, h1, tm with
  | [t], _, _, tm =>
    refine ⟨fun x hx => ?_, Nat.le_of_ble_eq_true rfl⟩
    have hx : x ∈ [t.2.tok] := hx
    rw [List.mem_singleton.mp hx]
    exact tm t (by simp)
  | [t, u], _, _, tm =>
    refine ⟨fun x hx => ?_, Nat.le_of_ble_eq_true rfl⟩
    have hx : x ∈ [t.2.tok, opT u.1, u.2.tok] := hx
    simp only [List.mem_cons, List.not_mem_nil, or_false] at hx
    rcases hx with rfl | rfl | rfl
    · exact tm t (by simp)
    · exact op _
    · exact tm u (by simp)
theorem sg_tok : ∀ s ∈ signs6, TokOk s := fun s hs => tok_by (by revert s; decide +kernel)
theorem naT_tok {names hs rs : List Str} (hn : ∀ t ∈ names, TokOk t) (hh : ∀ t ∈ hs, TokOk t) (hr : ∀ t ∈ rs, TokOk t) {a : Nat × Atom} (h : NaW names hs rs a) : (∀ t ∈ naT a, TokOk t) ∧ (naT a).length ≤ 9 := by
  obtain ⟨n, a⟩ := a
  obtain ⟨h2, _, ha⟩ := h
  have h2 : n ≤ 2 := h2
  have nt : TokOk "not" := tok_by (by decide +kernel)
  have key : (∀ t ∈ a.toks, TokOk t) ∧ a.toks.length ≤ 7 := by
    cases a with
    | word b w x =>
      refine ⟨fun t ht => ?_, Nat.le_of_ble_eq_true rfl⟩
      have ht : t ∈ [w, x] := ht
      simp only [List.mem_cons, List.not_mem_nil, or_false] at ht
      have kw : ∀ w ∈ (["none", "live"] : List Str), TokOk w := fun w hw => tok_by (by revert w; decide +kernel)
      have ko : TokOk "open" := tok_by (by decide +kernel)
      rcases ha with ⟨hw, hx⟩ | ⟨rfl, hx⟩
      · rcases ht with rfl | rfl
        · exact kw _ hw
        · exact hh _ hx
      · rcases ht with rfl | rfl
        · exact ko
        · exact hr _ hx
    | cmp b s l r =>
      obtain ⟨hs6, hl, hr'⟩ := ha
      obtain ⟨a1, a2⟩ := sumT_tok hn hl
      obtain ⟨b1, b2⟩ := sumT_tok hn hr'
      refine ⟨fun t ht => ?_, by show (sumT l ++ (s :: sumT r)).length ≤ 7; rw [List.length_append, List.length_cons]; omega⟩
      have ht : t ∈ sumT l ++ (s :: sumT r) := ht
      rcases List.mem_append.mp ht with ht | ht
      · exact a1 t ht
      · rcases List.mem_cons.mp ht with rfl | ht
        · exact sg_tok _ hs6
        · exact b1 t ht
  refine ⟨fun t ht => ?_, by show (List.replicate n _ ++ a.toks).length ≤ 9; rw [List.length_append, List.length_replicate]; omega⟩
  rcases List.mem_append.mp (show t ∈ List.replicate n ("not" : Str) ++ a.toks from ht) with ht | ht
  · rw [(List.mem_replicate.mp ht).2]; exact nt
  · exact key.1 t ht
theorem sepT_len {β : Type} {sep : Str} {pr : β → List Str} {B : Nat} : ∀ xs : List β, (∀ x ∈ xs, (pr x).length ≤ B) → (sepT sep pr xs).length ≤ xs.length * (B + 1)
  | [], _ => by simp [sepT]
  | x :: r, h => by
    have h1 := h x (List.mem_cons_self ..)
    have h2 : ∀ l : List β, (∀ y ∈ l, (pr y).length ≤ B) → (l.flatMap fun y => sep :: pr y).length ≤ l.length * (B + 1) := fun l hl => by
      induction l with
      | nil => simp
      | cons y l ih =>
        have a1 := hl y (List.mem_cons_self ..)
        have a2 := ih fun z hz => hl z (List.mem_cons_of_mem _ hz)
        simp only [List.flatMap_cons, List.length_append, List.length_cons, Nat.add_mul, Nat.one_mul] at *
        omega
    have h3 := h2 r fun y hy => h y (List.mem_cons_of_mem _ hy)
    show (pr x ++ r.flatMap fun y => sep :: pr y).length ≤ _
    rw [List.length_append, List.length_cons, Nat.add_mul, Nat.one_mul]
    omega
theorem cond_tok {names hs rs : List Str} (hn : ∀ t ∈ names, TokOk t) (hh : ∀ t ∈ hs, TokOk t) (hr : ∀ t ∈ rs, TokOk t) {ps : List (List (Nat × Atom))} (h : CdW names hs rs 2 ps) : (∀ t ∈ condT ps, TokOk t) ∧ (condT ps).length ≤ 100 ∧ condT ps ≠ [] := by
  obtain ⟨h0, h1, h2⟩ := h
  refine ⟨fun t ht => ?_, ?_, ?_⟩
  · rcases sepT_mem ht with rfl | ⟨p, hp, ht⟩
    · exact tok_by (by decide +kernel)
    · rcases sepT_mem ht with rfl | ⟨a, ha, ht⟩
      · exact tok_by (by decide +kernel)
      · exact (naT_tok hn hh hr ((h2 p hp).2.2 a ha)).1 t ht
  · have a1 := sepT_len (sep := "or") (pr := partT) (B := 20) ps fun p hp => by
      have a2 := sepT_len (sep := "and") (pr := naT) (B := 9) p fun a ha => (naT_tok hn hh hr ((h2 p hp).2.2 a ha)).2
      have a3 := (h2 p hp).2.1
      have : partT p = sepT "and" naT p := rfl
      rw [this]
      omega
    have : condT ps = sepT "or" partT ps := rfl
    rw [this]
    omega
  · cases ps with
    | nil => exact absurd rfl h0
    | cons p r =>
      intro z
      have z : partT p ++ _ = [] := z
      exact partT_ne (h2 p (List.mem_cons_self ..)).1 (List.append_eq_nil_iff.mp z).1
theorem na_s {names hs rs : List Str} (hn : ∀ t ∈ names, t.length ≤ 8) (hh : ∀ t ∈ hs, t.length ≤ 8) (hr : ∀ t ∈ rs, t.length ≤ 8) {a : Nat × Atom} (h : NaW names hs rs a) : NaS a := by
  obtain ⟨n, a⟩ := a
  obtain ⟨h2, _, ha⟩ := h
  refine ⟨h2, ?_⟩
  have ts : ∀ ts : Terms, TsW names 2 ts → ts ≠ [] ∧ ts.length ≤ 5 ∧ ∀ t ∈ ts, TmS t.2 := fun ts h => ⟨h.1, by have := h.2.1; omega, fun t ht => by
    have := (h.2.2.1 t ht).1
    cases e : t.2 with
    | num n => rw [e] at this; exact this
    | nam s => rw [e] at this; exact hn s this⟩
  cases a with
  | word b w x =>
    have kw : ∀ w ∈ (["none", "live"] : List Str), w.length ≤ 4 := by decide +kernel
    rcases ha with ⟨hw, hx⟩ | ⟨rfl, hx⟩
    · exact ⟨kw _ hw, hh _ hx⟩
    · exact ⟨by decide +kernel, hr _ hx⟩
  | cmp b s l r =>
    obtain ⟨hs6, hl, hr'⟩ := ha
    have kw : ∀ w ∈ signs6, w.length ≤ 2 := by decide +kernel
    obtain ⟨a1, a2, a3⟩ := ts l hl
    obtain ⟨b1, b2, b3⟩ := ts r hr'
    exact ⟨kw s hs6, a1, b1, a2, b2, a3, b3⟩
def onesT (n : Nat) : List Str := sepT "-" (fun _ : Str => ["1"]) (List.replicate n ("1" : Str))
theorem ones_ne {n : Nat} (h : 1 ≤ n) : onesT n ≠ [] := by
  obtain ⟨m, rfl⟩ : ∃ m, n = m + 1 := ⟨n - 1, by omega⟩
  simp [onesT, List.replicate_succ, sepT]
theorem ones_text (n : Nat) : Str.join " - " (List.replicate n ("1" : Str)) = spc (onesT n) := by
  unfold onesT
  rw [← spc_sep (s3 := " - ") (sep := "-") (by decide +kernel) _ (fun _ _ => by simp)]
  congr 1
  rw [List.map_replicate]
  rfl
theorem ones_tok1 (n : Nat) : ∀ t ∈ onesT n, TokOk t := fun t ht => by
  rcases sepT_mem ht with rfl | ⟨x, _, hx⟩
  · exact tok_by (by decide +kernel)
  · rw [List.mem_singleton.mp hx]; exact tok_by (by decide +kernel)
theorem ones_cnt (n : Nat) : (onesT n).length ≤ n * 2 := by
  have := sepT_len (sep := "-") (pr := fun _ : Str => (["1"] : List Str)) (B := 1) (List.replicate n ("1" : Str)) fun _ _ => Nat.le_refl _
  rw [List.length_replicate] at this
  exact this
theorem ones_len (n : Nat) (h : n ≤ 7) : (spc (onesT n)).length ≤ 400 := by
  have h1 := join_len_le " " 20 (onesT n) fun t ht => (ones_tok1 n t ht).2
  have h2 := ones_cnt n
  have h3 : (onesT n).length * (20 + (" " : Str).length) ≤ 14 * 21 := Nat.mul_le_mul (by omega) (by decide)
  show (Str.join " " (onesT n)).length ≤ 400
  omega
theorem ones_tok (n m : Nat) (h1 : 1 ≤ n) (h2 : n ≤ 7) (h3 : 1 ≤ m) (h4 : m ≤ 7) : (∀ t ∈ sepT "<" onesT [n, m], TokOk t) ∧ sepT "<" onesT [n, m] ≠ [] ∧ (sepT "<" onesT [n, m]).length ≤ 404 := by
  refine ⟨fun t ht => ?_, ?_, ?_⟩
  · rcases sepT_mem ht with rfl | ⟨x, _, hx⟩
    · exact tok_by (by decide +kernel)
    · exact ones_tok1 x t hx
  · intro z
    have z : onesT n ++ _ = [] := z
    exact ones_ne h1 (List.append_eq_nil_iff.mp z).1
  · have := sepT_len (sep := "<") (pr := onesT) (B := 14) [n, m] fun x hx => by
      have h := ones_cnt x
      simp only [List.mem_cons, List.not_mem_nil, or_false] at hx
      rcases hx with rfl | rfl <;> omega
    have e : [n, m].length = 2 := rfl
    rw [e] at this
    omega
theorem four_of {l : List Str} (h : l.length = 4) : ∃ a b c d, l = [a, b, c, d] := by
  match l, h with
  | [a, b, c, d], _ => exact ⟨a, b, c, d, rfl⟩
theorem Wd.nw {f i : Nat} {t : Str} (h : Wd f i t) : t ∉ nWords := fun z => by
  obtain ⟨c, r, e, hc, _⟩ := h
  have key : ∀ w ∈ nWords, ∀ d < 14, w.cps.toList.head? ≠ abc14.cps.toList[d]? := by decide +kernel
  exact key t z _ (Nat.mod_lt _ (by decide)) (by rw [e]; exact hc.symm)
theorem g_muld {W : List Addr} {H : Hp} {p : Addr} {ds : List PyData} {n : Int} {Q : VK} (h : Df W H (.ref p) (.list ds)) (w : Wl W H) (h0 : 0 ≤ n) (h1 : n ≤ 1000) (hl : ds.length ≤ 100) (k : ∀ q H', H q = none → Ed [] H H' → Df W H' (.ref q) (.list (List.replicate n.toNat ds).flatten) → Q (.ref q) H') : dMul (.ref p) (.int n) H Q := by
  obtain ⟨xs, m, hp, r⟩ := h.cells
  have l := r.length
  have hm : xs.length * n.toNat ≤ 100 * 1000 := Nat.mul_le_mul (by omega) (by omega)
  refine ⟨xs, hp, by omega, by omega, by rw [sizeLine_eq]; omega, ?_⟩
  have rr : ∀ j : Nat, DfAll W H (List.replicate j xs).flatten (List.replicate j ds).flatten := fun j => by
    induction j with
    | zero => exact .nil
    | succ j ih => rw [List.replicate_succ, List.replicate_succ]; exact r.app ih
  exact g_dn (rr _) w k

def sp_law (K : PySem.W.Frag) : Sp := fun vs H Q _ => ∃ (a : Addr) (ns : List Int), vs = [.ref a] ∧ SqL K H a (ns.map V.int) ∧ ns.length ≤ 63 ∧ (∀ z ∈ ns, Builtin.Int.intBits z ≤ 1048576) ∧ ∀ H', Q (.bl true) H'
section
variable {P : Program} {w : World} {K : PySem.W.Frag} {mg : Str → Option Value} {base : Heap}
theorem ok_BadCondition___init__ {f : Addr} {fd : FuncData} (F : FnP K "__init__" "BadCondition.__init__" s_BadCondition___init__ f fd) (o : OexC K (He.ga K "BadCondition")) (no : PySem.W.findIn K (.ref (He.ga K "BadCondition")) "at" = some none) : FnOk P w K mg base (L2.CX P w) 1 f fd ["self", "at"] (sp_xi (He.ga K "BadCondition") "at") := by
  refine F.ok sc_BadCondition___init__ (fun vs H Q E h => ?_) (fun cdv A outer s H vs Q E hr h => ?_)
  · obtain ⟨a, v, rfl, _⟩ := h
    rfl
  · obtain ⟨a, v, rfl, ha, k⟩ := h
    exact ⟨_, pss_one (ps_ost (pv 0) (pv 1)), _, rfl, _, rfl, a, _, rfl, o, no, .inl ⟨ha, fun dx h1 h2 => k dx h1 h2⟩⟩
end
section
variable {P : Program} {w : World} {K : PySem.W.Frag} {mg : Str → Option Value} {base : Heap}
theorem ok_law_seed {f : Addr} {fd : FuncData} (F : FnP K "_law_seed" "_law_seed" s_law_seed f fd) (T : Txt K mg)   : FnOk P w K mg base (L2.CX P w) 1 f fd ["_law_script", "_law_at"] (sp_law_seed K) := by
  refine F.ok sc_law_seed (fun vs H Q E h => ?_) (fun cdv A outer s H vs Q E hr h => ?_)
  · obtain ⟨a, ns, n, rfl, _⟩ := h
    rfl
  · have nd := sc_law_seed.nd
    have tk := takes_of (E := E) (X := (cxOf (L2.CX P w) P w K mg base ["_law_script", "_law_at", "_law_cell", "_law_mixed", "_law_k", "_law_each"] "_law_seed" (defScope s_law_seed) f cdv A outer s H E)) rfl rfl rfl rfl
    have po : PassesOwn (model P w) (cxOf (L2.CX P w) P w K mg base ["_law_script", "_law_at", "_law_cell", "_law_mixed", "_law_k", "_law_each"] "_law_seed" (defScope s_law_seed) f cdv A outer s H E).A (cxOf (L2.CX P w) P w K mg base ["_law_script", "_law_at", "_law_cell", "_law_mixed", "_law_k", "_law_each"] "_law_seed" (defScope s_law_seed) f cdv A outer s H E).env (cxOf (L2.CX P w) P w K mg base ["_law_script", "_law_at", "_law_cell", "_law_mixed", "_law_k", "_law_each"] "_law_seed" (defScope s_law_seed) f cdv A outer s H E).xe := passes_of (X := (cxOf (L2.CX P w) P w K mg base ["_law_script", "_law_at", "_law_cell", "_law_mixed", "_law_k", "_law_each"] "_law_seed" (defScope s_law_seed) f cdv A outer s H E)) rfl
    obtain ⟨a, ns, n, rfl, hS, h0, k⟩ := h
    refine ⟨_, (pss_cons (q_set 2 nd (pe_ifExp (pt_cmpR op_dLt (pv 1) (pe_callB (cl_len K) (by rfl) T.n_len bt_len (pa_cons (pv 0) pa_nil)) (nomark _)) (pe_ix (ix_dyn K) (pv 0) (pv 1) (fun _ _ => rfl)) pe_int)) (pss_cons (q_set 3 nd (pe_op op_dAdd pe_int (pe_op op_dMul pe_int (pv 1)))) (pss_cons (ps_for po rfl (q_enum K T.n_enumerate (pa_cons (pe_slice (sl_dyn K) (pv 0) po_none (po_some pe_int)) pa_nil)) (q_gtup K 2 (pgs_cons (q_name 4 nd) (pgs_cons (q_name 5 nd) pgs_nil))) (pss_one (q_set 3 nd (pe_op op_dMod (pe_callTy cl_int (by rfl) T.n_int bt_int (pa_cons (pe_op op_dAdd (pe_op op_dAdd (pe_op op_dMul (pv 3) pe_int) (pe_op op_dMod (pe_callTy cl_int (by rfl) T.n_int bt_int (pa_cons (pv 5) pa_nil)) pe_int)) (pe_op op_dMul pe_int (pv 4))) pa_nil)) pe_int)))) (pss_one (ps_ret (pe_lst (pa_cons (pe_ifExp (pt_cmpR op_dGe (pe_callB cl_abs (by rfl) T.n_abs bt_abs (pa_cons (pv 2) pa_nil)) (pe_op op_dPow pe_int pe_int) (nomark _)) (pe_callB cl_abs (by rfl) T.n_abs bt_abs (pa_cons (pv 2) pa_nil)) pe_int) (pa_cons (pv 3) pa_nil)))))))), ?_⟩
    refine g_start (σ' := some _ :: some _ :: none :: none :: none :: none :: []) rfl ?_
    walk_at "go"
    refine' g_all (α := Int) (fun rest => ?main) ?rest
    case main =>
      refine g_iteD (fun hlt => ?_) (fun hlt => ?_)
      · walk_at "go"
        obtain ⟨c, hc⟩ := atI_int h0 hlt
        refine g_ix_l (Or.inl hS) hc ?_
        exact rest c
      · walk_at "go1"
        exact rest 0
    case rest =>
      intro c
      walk_at "go"
      intro l hl
      walk_at "go"
      refine lp_it (walk_enum (xs := cutV (ns.map V.int) none (some 63))) (fun i σ' H' => ∃ (m : Int) (u v : Option V), σ' = [some (.ref a), some (.int n), some (.int c), some (.int m), u, v] ∧ Same H H' ∧ H' l = some (.lst (cutV (ns.map V.int) none (some 63)))) ?_ ?_ ?_ ?_
      · exact ⟨_, none, none, rfl, (Same.refl H).new hl, upd_same⟩
      · rintro i σ' H' _ ⟨m, u, v, rfl, s1, h1⟩
        exact SqL.of h1
      · rintro i x σ' H' H2 hi ⟨m, u, v, rfl, s1, h1⟩ ⟨t, x1, y1, rfl, ht, rfl, e1, e2⟩
        cases e1
        obtain ⟨z, _, rfl⟩ := List.mem_map.mp (cutV_mem (List.mem_of_getElem? e2))
        walk_at "go"
        exact ⟨_, _, _, rfl, s1.new ht, by walk_at "hp"⟩
      · rintro σ' H' ⟨m, u, v, rfl, s1, h1⟩
        walk_at "go"
        refine g_iteD (fun _ => ?_) (fun _ => ?_)
        all_goals
          walk_at "go"
          refine ⟨by show 2 ≤ sizeLine; decide, fun p hp => ?_⟩
          exact k p _ (s1.new hp) (s1.free hp) Bag.at
end
section
variable {P : Program} {w : World} {K : PySem.W.Frag} {mg : Str → Option Value} {base : Heap}
theorem ok_law_take {f : Addr} {fd : FuncData} (F : FnP K "_law_take" "_law_take" s_law_take f fd) (T : Txt K mg)   : FnOk P w K mg base (L2.CX P w) 1 f fd ["_law_bag", "_law_many"] (sp_law_take K) := by
  refine F.ok sc_law_take (fun vs H Q E h => ?_) (fun cdv A outer s H vs Q E hr h => ?_)
  · obtain ⟨b, many, rfl, _⟩ := h
    rfl
  · have nd := sc_law_take.nd
    have tk := takes_of (E := E) (X := (cxOf (L2.CX P w) P w K mg base ["_law_bag", "_law_many", "_law_digit"] "_law_take" (defScope s_law_take) f cdv A outer s H E)) rfl rfl rfl rfl
    have po : PassesOwn (model P w) (cxOf (L2.CX P w) P w K mg base ["_law_bag", "_law_many", "_law_digit"] "_law_take" (defScope s_law_take) f cdv A outer s H E).A (cxOf (L2.CX P w) P w K mg base ["_law_bag", "_law_many", "_law_digit"] "_law_take" (defScope s_law_take) f cdv A outer s H E).env (cxOf (L2.CX P w) P w K mg base ["_law_bag", "_law_many", "_law_digit"] "_law_take" (defScope s_law_take) f cdv A outer s H E).xe := passes_of (X := (cxOf (L2.CX P w) P w K mg base ["_law_bag", "_law_many", "_law_digit"] "_law_take" (defScope s_law_take) f cdv A outer s H E)) rfl
    obtain ⟨b, many, rfl, ⟨x, y, hb⟩, h1, h2, k⟩ := h
    have h3 : many.natAbs.log2 < 9000 := log2_small (Nat.lt_of_lt_of_le (show many.natAbs < 2 ^ 200 by omega) (by decide)) (by omega)
    refine ⟨_, (pss_cons (ps_if (pt_cmpR op_dGt (pe_ix (ix_dyn K) (pv 0) pe_int (fun _ _ => rfl)) pe_int (nomark _)) (pss_cons (q_set 2 nd (pe_op op_dMod (pe_callTy cl_int (by rfl) T.n_int bt_int (pa_cons (pe_ix (ix_dyn K) (pv 0) pe_int (fun _ _ => rfl)) pa_nil)) (pv 1))) (pss_cons (ps_asg (pe_op op_dDiv (pe_ix (ix_dyn K) (pv 0) pe_int (fun _ _ => rfl)) (pv 1)) (pg_sub (pv 0) pe_int set_list)) (pss_one (ps_ret (pv 2))))) pss_nil) (pss_cons (ps_asg (pe_op op_dMod (pe_callTy cl_int (by rfl) T.n_int bt_int (pa_cons (pe_op op_dAdd (pe_op op_dMul (pe_ix (ix_dyn K) (pv 0) pe_int (fun _ _ => rfl)) pe_int) pe_int) pa_nil)) pe_int) (pg_sub (pv 0) pe_int set_list)) (pss_one (ps_ret (pe_op op_dMod (pe_op op_dDiv (pe_op op_dMod (pe_callTy cl_int (by rfl) T.n_int bt_int (pa_cons (pe_op op_dMul (pe_op op_dDiv (pe_ix (ix_dyn K) (pv 0) pe_int (fun _ _ => rfl)) pe_int) pe_int) pa_nil)) pe_int) pe_int) (pv 1)))))), ?_⟩
    refine g_start (σ' := some _ :: some _ :: none :: []) rfl ?_
    walk_at "go"
    refine g_iteD (fun h => ?_) (fun h => ?_)
    · walk_at "go"
      exact k _ _ (Int.emod_nonneg _ (by omega)) (Int.emod_lt_of_pos _ h1) ((Sx.refl H).put (by simp)) Bag.at
    · walk_at "go"
      exact k _ _ (Int.emod_nonneg _ (by omega)) (Int.emod_lt_of_pos _ h1) ((Sx.refl H).put (by simp)) Bag.at
end
section
variable {P : Program} {w : World} {K : PySem.W.Frag} {mg : Str → Option Value} {base : Heap}
theorem ok_law_of {f : Addr} {fd : FuncData} (F : FnP K "_law_of" "_law_of" s_law_of f fd) (T : Txt K mg) (C__law_take : Cal P w K mg base 1 "_law_take" ["_law_bag", "_law_many"] (sp_law_take K))  : FnOk P w K mg base (L2.CX P w) 2 f fd ["_law_bag", "_law_some"] (sp_law_of K) := by
  refine F.ok sc_law_of (fun vs H Q E h => ?_) (fun cdv A outer s H vs Q E hr h => ?_)
  · obtain ⟨b, p, xs, rfl, _⟩ := h
    rfl
  · have nd := sc_law_of.nd
    have tk := takes_of (E := E) (X := (cxOf (L2.CX P w) P w K mg base ["_law_bag", "_law_some"] "_law_of" (defScope s_law_of) f cdv A outer s H E)) rfl rfl rfl rfl
    have po : PassesOwn (model P w) (cxOf (L2.CX P w) P w K mg base ["_law_bag", "_law_some"] "_law_of" (defScope s_law_of) f cdv A outer s H E).A (cxOf (L2.CX P w) P w K mg base ["_law_bag", "_law_some"] "_law_of" (defScope s_law_of) f cdv A outer s H E).env (cxOf (L2.CX P w) P w K mg base ["_law_bag", "_law_some"] "_law_of" (defScope s_law_of) f cdv A outer s H E).xe := passes_of (X := (cxOf (L2.CX P w) P w K mg base ["_law_bag", "_law_some"] "_law_of" (defScope s_law_of) f cdv A outer s H E)) rfl
    obtain ⟨b, p, xs, rfl, hb, hp, hne, h1, h2, k⟩ := h
    refine ⟨_, (pss_one (ps_ret (pe_ix (ix_dyn K) (pv 1) (q_call C__law_take tk (hr.mono (by decide)) (pa_cons (pv 0) (pa_cons (pe_callB (cl_len K) (by rfl) T.n_len bt_len (pa_cons (pv 1) pa_nil)) pa_nil))) (fun _ _ => rfl)))), ?_⟩
    refine g_start (σ' := some _ :: some _ :: []) rfl ?_
    walk_at "go"
    refine ⟨b, _, rfl, hb, by omega, by omega, fun d H' d0 d1 s1 b1 => ?_⟩
    obtain ⟨v, hv, e⟩ := atI_mem d0 d1
    exact g_ix_l (Or.inl (SqL.of (s1.get1 hne hp))) e (k v H' hv s1 b1)
end
section
variable {P : Program} {w : World} {K : PySem.W.Frag} {mg : Str → Option Value} {base : Heap}
theorem ok_is_number {f : Addr} {fd : FuncData} (F : FnP K "is_number" "is_number" s_is_number f fd) (T : Txt K mg)   : FnOk P w K mg base (L2.CX P w) 1 f fd ["token"] (sp_is_number K) := by
  refine F.ok sc_is_number (fun vs H Q E h => ?_) (fun cdv A outer s H vs Q E hr h => ?_)
  · obtain ⟨t, rfl, _⟩ := h
    rfl
  · have nd := sc_is_number.nd
    have tk := takes_of (E := E) (X := (cxOf (L2.CX P w) P w K mg base ["token", "char"] "is_number" (defScope s_is_number) f cdv A outer s H E)) rfl rfl rfl rfl
    have po : PassesOwn (model P w) (cxOf (L2.CX P w) P w K mg base ["token", "char"] "is_number" (defScope s_is_number) f cdv A outer s H E).A (cxOf (L2.CX P w) P w K mg base ["token", "char"] "is_number" (defScope s_is_number) f cdv A outer s H E).env (cxOf (L2.CX P w) P w K mg base ["token", "char"] "is_number" (defScope s_is_number) f cdv A outer s H E).xe := passes_of (X := (cxOf (L2.CX P w) P w K mg base ["token", "char"] "is_number" (defScope s_is_number) f cdv A outer s H E)) rfl
    obtain ⟨t, rfl, hl, k⟩ := h
    have hz : t.length ≤ sizeLine := by rw [sizeLine_eq]; omega
    refine ⟨_, (pss_cons (ps_if (PW.pt (pw_or (pt_cmpR (op_dEq K hr.units) (pv 0) pe_str (nomark _)) (pw_or1 (pt_cmpR op_dGt (pe_callB (cl_len K) (by rfl) T.n_len bt_len (pa_cons (pv 0) pa_nil)) pe_int (nomark _))))) (pss_one (ps_ret pe_bl)) pss_nil) (pss_cons (ps_for po rfl (pi_str (pv 0)) (q_name 1 nd) (pss_one (ps_if (pt_cmpR (op_dNotIn K) (pv 1) pe_str (by rfl)) (pss_one (ps_ret pe_bl)) pss_nil))) (pss_one (ps_ret (q_orT K (pe_cmpR (op_dEq K hr.units) (pv 0) pe_str (nomark _)) (pe_one (pe_cmpR (op_dNe K hr.units) (pe_ix (ix_dyn K) (pv 0) pe_int (fun _ _ => rfl)) pe_str (nomark _)))))))), ?_⟩
    refine g_start (σ' := some _ :: none :: []) rfl ?_
    walk_at "go"
    refine g_iteD (fun e => ?_) (fun e => ?_)
    · walk_at "go"
      rw [show isNum t = false by unfold isNum; rw [decide_eq_true e]; rfl] at k
      exact k
    · walk_at "go"
      refine g_iteD (fun e2 => ?_) (fun e2 => ?_)
      · walk_at "go"
        rw [show isNum t = false by unfold isNum; rw [decide_eq_true e2, Bool.or_true]; rfl] at k
        exact k
      · walk_at "go"
        refine lp_it walk_str (fun i σ' H' => ∃ v : Option V, σ' = [some (.str t), v] ∧ H' = H ∧ ((t.cps.toList.take i).all fun c => decide (c ∈ digs.cps.toList)) = true) ⟨none, rfl, rfl, rfl⟩ (fun _ _ _ _ _ => trivial) ?_ ?_
        · rintro i x σ' H' H2 hi ⟨v, rfl, rfl, ha⟩ ⟨rfl, c, hc, rfl⟩
          have hc' : t.cps.toList[i]? = some c := by simpa using hc
          walk_at "go"
          refine g_iteN (fun hn => ?_) (fun hn => ?_)
          · walk_at "go"
            have hb := all_no (f := fun c => decide (c ∈ digs.cps.toList)) hc' (decide_eq_false hn)
            rw [show isNum t = false by unfold isNum; rw [hb]; simp] at k
            exact k
          · walk_at "go"
            exact ⟨_, rfl, rfl, all_take_succ hc' (decide_eq_true hn) ha⟩
        · rintro σ' H' ⟨v, rfl, rfl, ha⟩
          have ha' : (t.cps.toList.all fun c => decide (c ∈ digs.cps.toList)) = true := by
            rw [List.take_of_length_le (by simp)] at ha
            exact ha
          have kk : Q (.bl (decide (t = "0") || !decide ((⟨#[t.cps.toList.headD 0]⟩ : Str) = "0"))) H' := by
            have : isNum t = (decide (t = "0") || !decide ((⟨#[t.cps.toList.headD 0]⟩ : Str) = "0")) := by
              unfold isNum
              rw [ha', decide_eq_false e, decide_eq_false e2]
              simp
            rw [← this]
            exact k
          walk_at "go"
          refine g_iteD (fun e3 => ?_) (fun e3 => ?_)
          · rw [decide_eq_true e3] at kk ⊢
            exact kk
          · walk_at "go"
            refine g_ix_s hz (atI_zero (nil_of_ne e)) ?_
            walk_at "go"
            rw [decide_eq_false e3] at kk
            exact kk
end
section
variable {P : Program} {w : World} {K : PySem.W.Frag} {mg : Str → Option Value} {base : Heap}
theorem ok_read_sum {f : Addr} {fd : FuncData} (F : FnP K "read_sum" "read_sum" s_read_sum f fd) (T : Txt K mg) (C_is_number : Cal P w K mg base 1 "is_number" ["token"] (sp_is_number K))  : FnOk P w K mg base (L2.CX P w) 2 f fd ["tokens", "start", "names"] (sp_read_sum K) := by
  refine F.ok sc_read_sum (fun vs H Q E h => ?_) (fun cdv A outer s H vs Q E hr h => ?_)
  · obtain ⟨p, q, toks, names, s, rfl, _⟩ := h
    rfl
  · have nd := sc_read_sum.nd
    have tk := takes_of (E := E) (X := (cxOf (L2.CX P w) P w K mg base ["tokens", "start", "names", "terms", "factor", "at", "token"] "read_sum" (defScope s_read_sum) f cdv A outer s H E)) rfl rfl rfl rfl
    have po : PassesOwn (model P w) (cxOf (L2.CX P w) P w K mg base ["tokens", "start", "names", "terms", "factor", "at", "token"] "read_sum" (defScope s_read_sum) f cdv A outer s H E).A (cxOf (L2.CX P w) P w K mg base ["tokens", "start", "names", "terms", "factor", "at", "token"] "read_sum" (defScope s_read_sum) f cdv A outer s H E).env (cxOf (L2.CX P w) P w K mg base ["tokens", "start", "names", "terms", "factor", "at", "token"] "read_sum" (defScope s_read_sum) f cdv A outer s H E).xe := passes_of (X := (cxOf (L2.CX P w) P w K mg base ["tokens", "start", "names", "terms", "factor", "at", "token"] "read_sum" (defScope s_read_sum) f cdv A outer s H E)) rfl
    obtain ⟨p, q, toks, names, s0, rfl, hp, hq, hl, k⟩ := h
    refine ⟨_, (pss_cons (q_set 3 nd (pe_lst pa_nil)) (pss_cons (q_set 4 nd pe_int) (pss_cons (q_set 5 nd (pv 1)) (pss_one (ps_while po (q_truth K pe_bl) (pss_cons (q_set 6 nd (pe_ifExp (pt_cmpR op_dLt (pv 5) (pe_callB (cl_len K) (by rfl) T.n_len bt_len (pa_cons (pv 0) pa_nil)) (nomark _)) (pe_ix (ix_dyn K) (pv 0) (pv 5) (fun _ _ => rfl)) pe_str)) (pss_cons (ps_if (pt_cmpR (op_dIn K) (pv 6) (pv 2) (by rfl)) (pss_one (ps_expr (q_bm K PySem.F.plainAttrs_list PySem.F.slot_list_append PySem.F.type_list_append m_append (pv 3) (pa_cons (pe_tup (pa_cons (pv 4) (pa_cons (pv 6) pa_nil))) pa_nil)))) (pss_one (ps_if (q_truth K (q_call C_is_number tk (hr.mono (by decide)) (pa_cons (pv 6) pa_nil))) (pss_one (ps_expr (q_bm K PySem.F.plainAttrs_list PySem.F.slot_list_append PySem.F.type_list_append m_append (pv 3) (pa_cons (pe_tup (pa_cons (pv 4) (pa_cons (pe_callTy cl_int (by rfl) T.n_int bt_int (pa_cons (pv 6) pa_nil)) pa_nil))) pa_nil)))) (pss_one (ps_ret (pe_tup (pa_cons pe_non (pa_cons (pv 5) pa_nil)))))))) (pss_cons (q_aug 5 nd pe_int ip_add) (pss_cons (ps_if (PW.pt (pw_or (pt_cmpR op_dGe (pv 5) (pe_callB (cl_len K) (by rfl) T.n_len bt_len (pa_cons (pv 0) pa_nil)) (nomark _)) (pw_or (pt_cmpR (op_dNotIn K) (pe_ix (ix_dyn K) (pv 0) (pv 5) (fun _ _ => rfl)) (pe_tup (pa_cons pe_str (pa_cons pe_str pa_nil))) (by rfl)) (pw_or1 (pt_cmpR (op_dEq K hr.units) (pe_callB (cl_len K) (by rfl) T.n_len bt_len (pa_cons (pv 3) pa_nil)) (q_glob T.g_MOST_TERMS) (nomark _)))))) (pss_one (ps_ret (pe_tup (pa_cons (pv 3) (pa_cons (pv 5) pa_nil))))) pss_nil) (pss_cons (q_set 4 nd (pe_ifExp (pt_cmpR (op_dEq K hr.units) (pe_ix (ix_dyn K) (pv 0) (pv 5) (fun _ _ => rfl)) pe_str (nomark _)) pe_int (pe_un un_neg pe_int))) (pss_one (q_aug 5 nd pe_int ip_add)))))))))))), ?_⟩
    refine g_start (σ' := some _ :: some _ :: some _ :: none :: none :: none :: none :: []) rfl ?_
    walk_at "go"
    refine al fun l hl0 => ?_
    walk_at "go"
    refine ⟨fun m σ' H' => ∃ (n : Nat) (f : Int) (acc : Terms) (u : Option V), σ' = [some (.ref p), some (.int (s0 : Nat)), some (.ref q), some (.ref l), some (.int f), some (.int (n : Nat)), u] ∧ Same H H' ∧ TermsAt H' l acc ∧ acc.length + m = 5 ∧ 0 < m ∧ readS names toks m n f acc = readS names toks 5 s0 1 [], ⟨5, s0, 1, [], none, rfl, (Same.refl H).new hl0, TermsAt.nil, rfl, by decide, rfl⟩, ?_⟩
    rintro m σ' H' ⟨n, f, acc, u, rfl, s1, ⟨as, hla, hpa⟩, hm, hm0, hrd⟩
    obtain ⟨m, rfl⟩ : ∃ j, m = j + 1 := ⟨m - 1, by omega⟩
    walk_at "go"
    refine ⟨_, fun _ _ h => h, ?_⟩
    walk_at "go"
    refine' g_allW (α := Str) (W := fun c => c = toks.getD n "") (fun rest => ?main) ?rest
    case main =>
      refine g_iteD (fun hlt => ?_) (fun hlt => ?_)
      · walk_at "go"
        have hn : n < toks.length := by simpa using hlt
        obtain ⟨c, hc⟩ : ∃ c, toks[n]? = some c := ⟨_, List.getElem?_eq_getElem hn⟩
        refine g_ix_l (Or.inl (sqL_same hp s1)) (atI_map hc) ?_
        exact rest c (by rw [List.getD_eq_getElem?_getD, hc]; rfl)
      · walk_at "go1"
        refine rest "" ?_
        rw [List.getD_eq_getElem?_getD, List.getElem?_eq_none (by simp at hlt; omega)]
        rfl
    case rest =>
      intro c hc
      have hlc : c.length ≤ 10000 := by
        rw [hc, List.getD_eq_getElem?_getD]
        cases e : toks[n]? with
        | none => exact Nat.zero_le _
        | some d => exact hl d (List.mem_of_getElem? e)
      have hlen : as.length ≤ 4 := by have := Paired.length hpa; omega
      walk_at "go"
      refine' g_allW (α := Hp) (W := fun H2 => ∃ t, termOf names c = some t ∧ Same H H2 ∧ TermsAt H2 l (acc ++ [(f, t)])) (fun rest2 => ?main2) ?rest2
      case main2 =>
        refine g_iteD (fun hin => ?_) (fun hin => ?_)
        · walk_at "go"
          refine al fun a ha => ?_
          walk_at "go"
          have s2 := (s1.new (o := .tup [.int f, .str c]) ha).mut (o := .lst (as.map V.ref ++ [.ref a])) hl0
          have t2 : TermsAt _ l (acc ++ [(f, .nam c)]) := TermsAt.snoc (t := .nam c) (f := f) hla hpa ha
          change Same H (upd (upd H' a (.tup [.int f, .str c])) l _) at s2
          change TermsAt (upd (upd H' a (.tup [.int f, .str c])) l _) l _ at t2
          generalize upd (upd H' a (.tup [.int f, .str c])) l _ = H2 at s2 t2 ⊢
          exact rest2 H2 ⟨_, by unfold termOf; rw [if_pos hin], s2, t2⟩
        · walk_at "go"
          refine ⟨c, rfl, hlc, ?_⟩
          walk_at "go"
          refine g_ite (fun hn => ?_) (fun hn => ?_)
          · walk_at "go"
            refine g_int_s (isNum_int hn) (by have := (isNum_parts hn).2.1; omega) ?_
            walk_at "go"
            refine al fun a ha => ?_
            walk_at "go"
            have s2 := (s1.new (o := .tup [.int f, .int (numVal c)]) ha).mut (o := .lst (as.map V.ref ++ [.ref a])) hl0
            have t2 : TermsAt _ l (acc ++ [(f, .num (numVal c))]) := TermsAt.snoc (t := .num (numVal c)) (f := f) hla hpa ha
            change TermsAt (upd (upd H' a (.tup [.int f, .int (numVal c)])) l _) l _ at t2
            generalize upd (upd H' a (.tup [.int f, .int (numVal c)])) l _ = H2 at s2 t2 ⊢
            exact rest2 H2 ⟨_, by unfold termOf; rw [if_neg hin, if_pos hn], s2, t2⟩
          · walk_at "go"
            refine al fun a ha => ?_
            refine k a _ (s1.new ha) (s1.free ha) ?_
            have e : termOf names (toks.getD n "") = none := by
              rw [← hc]; unfold termOf; rw [if_neg hin, if_neg (by rw [hn]; exact Bool.false_ne_true)]
            rw [← hrd]
            unfold readS
            rw [e]
            exact upd_same
      case rest2 =>
        rintro H2 ⟨t, ht, s2, as2, hl2, hp2⟩
        have hlen2 : as2.length = acc.length + 1 := by have := Paired.length hp2; simpa using this
        have e : termOf names (toks.getD n "") = some t := by rw [← hc]; exact ht
        have fin : ∀ H3, Same H H3 → TermsAt H3 l (acc ++ [(f, t)]) → (toks.length ≤ n + 1 ∨ isOp (toks.getD (n + 1) "") = false ∨ acc.length + 1 = 5) → ∀ a, H3 a = none → Q (.ref a) (upd H3 a (.tup [.ref l, .int ((n : Int) + 1)])) := fun H3 s3 t3 hs a ha => by
          refine k a _ (s3.new ha) (s3.free ha) ?_
          rw [← hrd]
          unfold readS
          rw [e]
          dsimp only
          rw [if_pos hs]
          exact ⟨l, hl0, upd_same, t3.same ((Same.refl H3).new ha)⟩
        walk_at "go"
        refine g_iteD (fun h5 => ?_) (fun h5 => ?_)
        · walk_at "go"
          exact al fun a ha => fin H2 s2 ⟨as2, hl2, hp2⟩ (.inl (by simp at h5; omega)) a ha
        · walk_at "go"
          have hn1 : n + 1 < toks.length := by simp at h5; omega
          obtain ⟨d, hd⟩ : ∃ d, toks[n + 1]? = some d := ⟨_, List.getElem?_eq_getElem hn1⟩
          have hgd : toks.getD (n + 1) "" = d := by rw [List.getD_eq_getElem?_getD, hd]; rfl
          refine g_ix_l (Or.inl (sqL_same hp s2)) (atI_map (i := n + 1) hd) ?_
          walk_at "go"
          refine al fun b hb => ?_
          have s3 : Same H (upd H2 b (.tup [.str "+", .str "-"])) := s2.new hb
          have t3 : TermsAt (upd H2 b (.tup [.str "+", .str "-"])) l (acc ++ [(f, t)]) := TermsAt.same ⟨as2, hl2, hp2⟩ ((Same.refl H2).new hb)
          have hl3 : upd H2 b (.tup [.str "+", .str "-"]) l = some (.lst (as2.map V.ref)) := by walk_at "hp"
          have h3b : upd H2 b (.tup [.str "+", .str "-"]) b = some (.tup [.str "+", .str "-"]) := upd_same
          generalize upd H2 b (.tup [.str "+", .str "-"]) = H3 at s3 t3 hl3 h3b ⊢
          walk_at "go"
          rw [inV_ops]
          refine g_ite (fun h6 => ?_) (fun h6 => ?_)
          · walk_at "go"
            exact al fun a ha => fin H3 s3 t3 (.inr (.inl (by rw [hgd]; simpa using h6))) a ha
          · walk_at "go"
            refine g_iteD (fun h7 => ?_) (fun h7 => ?_)
            · walk_at "go"
              exact al fun a ha => fin H3 s3 t3 (.inr (.inr (by simp at h7; omega))) a ha
            · walk_at "go"
              refine g_ix_l (Or.inl (sqL_same hp s3)) (atI_map (i := n + 1) hd) ?_
              walk_at "go"
              have next : readS names toks m (n + 2) (signOf d) (acc ++ [(f, t)]) = readS names toks 5 s0 1 [] := by
                rw [← hrd]
                conv => rhs; unfold readS
                rw [e]
                dsimp only
                rw [if_neg ?_, hgd]
                rintro (z | z | z)
                · omega
                · rw [hgd] at z; rw [z] at h6; cases h6
                · simp at h7; omega
              have hm1 : 0 < m := by simp at h7; omega
              refine g_iteD (fun h8 => ?_) (fun h8 => ?_)
              · walk_at "go"
                refine ⟨m, by omega, n + 2, 1, acc ++ [(f, t)], _, rfl, s3, t3, by simp; omega, hm1, ?_⟩
                rw [← next, show signOf d = 1 by unfold signOf; rw [if_pos h8]]
              · walk_at "go"
                refine ⟨m, by omega, n + 2, -1, acc ++ [(f, t)], _, rfl, s3, t3, by simp; omega, hm1, ?_⟩
                rw [← next, show signOf d = -1 by unfold signOf; rw [if_neg h8]]
end
section
variable {P : Program} {w : World} {K : PySem.W.Frag} {mg : Str → Option Value} {base : Heap}
theorem ok_law_names {f : Addr} {fd : FuncData} (F : FnP K "_law_names" "_law_names" s_law_names f fd) (T : Txt K mg) (C__law_of : Cal P w K mg base 2 "_law_of" ["_law_bag", "_law_some"] (sp_law_of K)) (C__law_take : Cal P w K mg base 1 "_law_take" ["_law_bag", "_law_many"] (sp_law_take K))  : FnOk P w K mg base (L2.CX P w) 3 f fd ["_law_bag", "_law_many"] (sp_law_names K) := by
  refine F.ok sc_law_names (fun vs H Q E h => ?_) (fun cdv A outer s H vs Q E hr h => ?_)
  · obtain ⟨b, many, rfl, _⟩ := h
    rfl
  · have nd := sc_law_names.nd
    have tk := takes_of (E := E) (X := (cxOf (L2.CX P w) P w K mg base ["_law_bag", "_law_many", "_law_first", "_law_names_here", "_law_k", "_law_letters", "_law_turn"] "_law_names" (defScope s_law_names) f cdv A outer s H E)) rfl rfl rfl rfl
    have po : PassesOwn (model P w) (cxOf (L2.CX P w) P w K mg base ["_law_bag", "_law_many", "_law_first", "_law_names_here", "_law_k", "_law_letters", "_law_turn"] "_law_names" (defScope s_law_names) f cdv A outer s H E).A (cxOf (L2.CX P w) P w K mg base ["_law_bag", "_law_many", "_law_first", "_law_names_here", "_law_k", "_law_letters", "_law_turn"] "_law_names" (defScope s_law_names) f cdv A outer s H E).env (cxOf (L2.CX P w) P w K mg base ["_law_bag", "_law_many", "_law_first", "_law_names_here", "_law_k", "_law_letters", "_law_turn"] "_law_names" (defScope s_law_names) f cdv A outer s H E).xe := passes_of (X := (cxOf (L2.CX P w) P w K mg base ["_law_bag", "_law_many", "_law_first", "_law_names_here", "_law_k", "_law_letters", "_law_turn"] "_law_names" (defScope s_law_names) f cdv A outer s H E)) rfl
    obtain ⟨b, many, rfl, hb, hm, k⟩ := h
    refine ⟨_, (pss_cons (q_set 2 nd (q_call C__law_take tk (hr.mono (by decide)) (pa_cons (pv 0) (pa_cons pe_int pa_nil)))) (pss_cons (q_set 3 nd (pe_lst pa_nil)) (pss_cons (ps_for po rfl (pi_range1 rfl T.n_range (pa_cons (pv 1) pa_nil)) (q_name 4 nd) (pss_cons (ps_setLc (i := 5) (own := [("_law_turn", 6)]) (tt := tYes) rfl nd rfl rfl (sw_true rfl rfl rfl (by decide +kernel)) (pi_range1 rfl T.n_range (pa_cons (q_call C__law_of tk (hr.mono (by decide)) (pa_cons (pv 0) (pa_cons (pe_lst (pa_cons pe_int (pa_cons pe_int (pa_cons pe_int (pa_cons pe_int (pa_cons pe_int pa_nil)))))) pa_nil))) pa_nil)) (blkOk_by (own := [("_law_turn", 6)]) (N := ["_law_bag", "_law_many", "_law_first", "_law_names_here", "_law_k", "_law_letters", "_law_turn"]) (sc := defScope s_law_names) (by decide +kernel)) (fun _ _ _ _ _ => (q_name 6 nd)) (fun _ _ _ _ _ => pts_nil) (fun _ _ _ _ _ => (pe_ix (ix_dyn K) pe_str (q_call C__law_take takes0 (hr.mono (by decide)) (pa_cons (pv 0) (pa_cons pe_int pa_nil))) (fun _ _ => rfl)))) (pss_one (ps_expr (q_bm K PySem.F.plainAttrs_list PySem.F.slot_list_append PySem.F.type_list_append m_append (pv 3) (pa_cons (pe_op op_dAdd (pe_ix (ix_dyn K) pe_str (pe_op op_dMod (pe_op op_dAdd (pv 2) (pv 4)) pe_int) (fun _ _ => rfl)) (q_bm K PySem.F.plainAttrs_str PySem.F.slot_str_join PySem.F.type_str_join (m_join K) pe_str (pa_cons (pv 5) pa_nil))) pa_nil)))))) (pss_one (ps_ret (pv 3)))))), ?_⟩
    refine g_start (σ' := some _ :: some _ :: none :: none :: none :: none :: none :: []) rfl ?_
    walk_at "go"
    refine ⟨b, 14, rfl, hb, by decide, by decide, fun fs H1 f0 f1 s1 b1 => ?_⟩
    walk_at "go"
    refine al fun p hp => ?_
    have npb : p ≠ b := b1.ne hp
    have hp0 : H p = none := s1.free (by simpa using npb) hp
    walk_at "go"
    refine lp_it walk_range (fun i σ' H' => ∃ (names : List Str) (u v : Option V), σ' = [some (.ref b), some (.int (many : Nat)), some (.int fs), some (.ref p), u, v, none] ∧ Sx [b] H H' ∧ Bag H' b ∧ H' p = some (.lst (names.map V.str)) ∧ names.length = i ∧ NamesOk fs.toNat names) ?_ (fun _ _ _ _ _ => trivial) ?_ ?_
    · exact ⟨[], none, none, rfl, s1.new hp, b1.new hp, upd_same, rfl, NamesOk.nil _⟩
    · rintro i x σ' H' H2 hi ⟨names, u, v, rfl, s2, b2, hp2, hl, ok⟩ ⟨rfl, rfl⟩
      walk_at "go"
      refine al fun q hq => ?_
      have nqb : q ≠ b := b2.ne hq
      have nqp : q ≠ p := (ne_of_none hp2 hq).symm
      walk_at "go"
      refine ⟨b, q, _, rfl, b2.new hq, upd_same, nqb, by decide, by decide, fun w H3 hw s3 b3 => ?_⟩
      obtain ⟨n, rfl, n0, n7⟩ : ∃ n : Int, w = .int n ∧ 0 ≤ n ∧ n ≤ 7 := by
        simp only [List.mem_cons, List.not_mem_nil, or_false] at hw
        rcases hw with rfl | rfl | rfl | rfl | rfl <;> exact ⟨_, rfl, by decide, by decide⟩
      have hp3 : H3 p = some (.lst (names.map V.str)) := s3.get1 npb (by rw [upd_ne nqp.symm]; exact hp2)
      have s4 : Sx [b] H H3 := Sx.trans (s2.new hq) s3
      clear s3
      walk_at "go"
      intro D hD
      have nDb : D ≠ b := b3.ne hD
      have nDp : D ≠ p := (ne_of_none hp3 hD).symm
      have hD0 : H D = none := s4.free (by simpa using nDb) hD
      refine lc_by walk_range (fun j H' => ∃ ls : List Str, H' D = some (.lst (ls.map V.str)) ∧ ls.length = j ∧ Lets ls ∧ Sx [b] H H' ∧ Bag H' b ∧ H' p = some (.lst (names.map V.str))) ?_ (fun _ _ _ _ => trivial) ?_ ?_
      · exact ⟨[], upd_same, rfl, (fun t ht => by simp at ht), s4.new hD, b3.new hD, by walk_at "hp"⟩
      · rintro j x H5 H6 hj ⟨ls, hl1, hl2, hl3, s5, b5, hp5⟩ ⟨rfl, rfl⟩
        walk_at "go"
        refine ⟨rfl, ?_⟩
        walk_at "go"
        refine ⟨b, 26, rfl, b5, by decide, by decide, fun d H7 d0 d1 s7 b7 => ?_⟩
        refine g_ix_s (by decide +kernel) (atI_abc d0 d1) ?_
        refine ⟨_, s7.get1 nDb hl1, by rw [sizeLine_eq]; simp; omega, ls ++ [⟨#[97 + d.toNat]⟩], by rw [upd_same, List.map_append]; rfl, by simp [hl2], lets_snoc hl3 (by omega) (by omega), ?_, b7.put nDb.symm, ?_⟩
        · exact (s5.trans s7).mut hD0
        · rw [upd_ne nDp.symm]; exact s7.get1 npb hp5
      · rintro H5 ⟨ls, hl1, hl2, hl3, s5, b5, hp5⟩
        walk_at "go"
        obtain ⟨c, hc, hc1, hc2⟩ := abc14_at ((fs.toNat + i) % 14) (Nat.mod_lt _ (by decide))
        have e14 := atI_of hc
        rw [show (((fs.toNat + i) % 14 : Nat) : Int) = (fs + (0 + (i : Int))) % 14 by omega] at e14
        refine g_ix_s (by decide +kernel) e14 ?_
        walk_at "go"
        obtain ⟨j1, j2⟩ := lets_join hl3
        have jl := sum_len_le (lets_len hl3)
        have jt : (Txt.join "" ls).length = ls.length := by rw [show Txt.join "" ls = Str.join "" ls from StrLaws.glued_eq_join _ _, ← j1]; simp [Str.length]
        refine g_join (ys := ls) (Or.inl (SqL.of hl1)) (by rw [show (("" : Str)).length = 0 from rfl]; omega) ?_
        refine g_add_s (by rw [jt, sizeLine_eq, show (⟨#[c]⟩ : Str).length = 1 from rfl]; omega) ?_
        walk_at "go"
        refine ⟨names ++ [⟨#[c]⟩ ++ Txt.join "" ls], _, _, rfl, s5.mut hp0, b5.put npb.symm, by rw [upd_same, List.map_append]; rfl, by simp [hl], ok.snoc ⟨c, (Str.join "" ls).cps.toList, ?_, by rw [hl]; exact hc, by rw [j1]; omega, j2⟩⟩
        rw [Str.cps_append, show Txt.join "" ls = Str.join "" ls from StrLaws.glued_eq_join _ _]
        simp
    · rintro σ' H' ⟨names, u, v, rfl, s2, b2, hp2, hl, ok⟩
      walk_at "go"
      exact k p fs.toNat names H' s2 b2 hp0 hp2 (by simpa using hl) ok
end
section
variable {P : Program} {w : World} {K : PySem.W.Frag} {mg : Str → Option Value} {base : Heap}
theorem ok_Reader_peek {f : Addr} {fd : FuncData} (F : FnP K "peek" "Reader.peek" s_Reader_peek f fd) (T : Txt K mg)   : FnOk P w K mg base (L2.CX P w) 1 f fd ["self"] (sp_Reader_peek K) := by
  refine F.ok sc_Reader_peek (fun vs H Q E h => ?_) (fun cdv A outer s H vs Q E hr h => ?_)
  · obtain ⟨a, l, n, rfl, _⟩ := h
    rfl
  · have nd := sc_Reader_peek.nd
    have tk := takes_of (E := E) (X := (cxOf (L2.CX P w) P w K mg base ["self"] "Reader.peek" (defScope s_Reader_peek) f cdv A outer s H E)) rfl rfl rfl rfl
    have po : PassesOwn (model P w) (cxOf (L2.CX P w) P w K mg base ["self"] "Reader.peek" (defScope s_Reader_peek) f cdv A outer s H E).A (cxOf (L2.CX P w) P w K mg base ["self"] "Reader.peek" (defScope s_Reader_peek) f cdv A outer s H E).env (cxOf (L2.CX P w) P w K mg base ["self"] "Reader.peek" (defScope s_Reader_peek) f cdv A outer s H E).xe := passes_of (X := (cxOf (L2.CX P w) P w K mg base ["self"] "Reader.peek" (defScope s_Reader_peek) f cdv A outer s H E)) rfl
    have cR := T.c_Reader
    have a1 := T.a_Reader_tokens
    have a2 := T.a_Reader_names
    have a3 := T.a_Reader_handles
    have a4 := T.a_Reader_requests
    have a5 := T.a_Reader_at
    
    obtain ⟨a, l, n, rfl, ⟨h1, h2, h3, h4, h5⟩, k⟩ := h
    refine ⟨_, (pss_cons (ps_if (pt_cmpR op_dLt (q_fld K (pv 0)) (pe_callB (cl_len K) (by rfl) T.n_len bt_len (pa_cons (q_fld K (pv 0)) pa_nil)) (nomark _)) (pss_one (ps_ret (pe_ix (ix_dyn K) (q_fld K (pv 0)) (q_fld K (pv 0)) (fun _ _ => rfl)))) pss_nil) (pss_one (ps_ret pe_str))), ?_⟩
    refine g_start (σ' := some _ :: []) rfl ?_
    walk_at "go"
    refine g_iteD (fun hlt => ?_) (fun hlt => ?_)
    · walk_at "go"
      refine g_ix_l (Or.inl (SqL.of h2)) (atI_map (pk_in (by simpa using hlt))) ?_
      exact k
    · walk_at "go"
      rw [pk_out (by simp at hlt; omega)] at k
      exact k
end
section
variable {P : Program} {w : World} {K : PySem.W.Frag} {mg : Str → Option Value} {base : Heap}
theorem ok_Reader_take {f : Addr} {fd : FuncData} (F : FnP K "take" "Reader.take" s_Reader_take f fd) (T : Txt K mg) (N_Reader_peek : MtC P w K mg base 1 (He.ga K "Reader") "peek" ["self"] (sp_Reader_peek K)) (X_BadCondition : XC P w K mg base 1 "BadCondition" "at" (He.ga K "BadCondition"))  : FnOk P w K mg base (L2.CX P w) 3 f fd ["self", "allowed"] (sp_Reader_take K) := by
  refine F.ok sc_Reader_take (fun vs H Q E h => ?_) (fun cdv A outer s H vs Q E hr h => ?_)
  · obtain ⟨a, l, n, p, al, rfl, _⟩ := h
    rfl
  · have nd := sc_Reader_take.nd
    have tk := takes_of (E := E) (X := (cxOf (L2.CX P w) P w K mg base ["self", "allowed", "token"] "Reader.take" (defScope s_Reader_take) f cdv A outer s H E)) rfl rfl rfl rfl
    have po : PassesOwn (model P w) (cxOf (L2.CX P w) P w K mg base ["self", "allowed", "token"] "Reader.take" (defScope s_Reader_take) f cdv A outer s H E).A (cxOf (L2.CX P w) P w K mg base ["self", "allowed", "token"] "Reader.take" (defScope s_Reader_take) f cdv A outer s H E).env (cxOf (L2.CX P w) P w K mg base ["self", "allowed", "token"] "Reader.take" (defScope s_Reader_take) f cdv A outer s H E).xe := passes_of (X := (cxOf (L2.CX P w) P w K mg base ["self", "allowed", "token"] "Reader.take" (defScope s_Reader_take) f cdv A outer s H E)) rfl
    have cR := T.c_Reader
    have a1 := T.a_Reader_tokens
    have a2 := T.a_Reader_names
    have a3 := T.a_Reader_handles
    have a4 := T.a_Reader_requests
    have a5 := T.a_Reader_at
    
    obtain ⟨a, l, n, p, al, rfl, hR, hp, kE, kQ⟩ := h
    have hR' := hR
    obtain ⟨h1, h2, h3, h4, h5⟩ := hR
    refine ⟨_, (pss_cons (q_set 2 nd (q_meth0 N_Reader_peek tk (hr.mono (by decide)) (pv 0))) (pss_cons (ps_if (pt_cmpR (op_dNotIn K) (pv 2) (pv 1) (by rfl)) (pss_one (q_raise X_BadCondition tk (hr.mono (by decide)) (pa_cons (q_fld K (pv 0)) pa_nil))) pss_nil) (pss_cons (q_afld K (pv 0) pe_int in_add) (pss_one (ps_ret (pv 2)))))), ?_⟩
    refine g_start (σ' := some _ :: some _ :: none :: []) rfl ?_
    walk_at "go"
    refine ⟨a, l, n, rfl, hR', ?_⟩
    walk_at "go"
    rcases e : takeR al l.toks n with x | ⟨t, m⟩
    · have hno : pk l.toks n ∉ al := fun z => by unfold takeR at e; rw [if_pos z] at e; cases e
      have ex : n = x := by unfold takeR at e; rw [if_neg hno] at e; cases e; rfl
      subst ex
      refine g_iteN (fun _ => ?_) (fun z => absurd z hno)
      walk_at "go"
      intro d hd
      exact kE n e d hd
    · have hin : pk l.toks n ∈ al := by
        by_cases z : pk l.toks n ∈ al
        · exact z
        · unfold takeR at e; rw [if_neg z] at e; cases e
      refine g_iteN (fun z => absurd hin z) (fun _ => ?_)
      have e' := e
      unfold takeR at e'
      rw [if_pos hin] at e'
      cases e'
      walk_at "go"
      exact kQ _ _ e _ ((Sx.refl H).put (by simp)) (hR'.step (m := n + 1) (by omega))
end
section
variable {P : Program} {w : World} {K : PySem.W.Frag} {mg : Str → Option Value} {base : Heap}
theorem ok_Reader_sum_terms {f : Addr} {fd : FuncData} (F : FnP K "sum_terms" "Reader.sum_terms" s_Reader_sum_terms f fd) (T : Txt K mg) (C_read_sum : Cal P w K mg base 2 "read_sum" ["tokens", "start", "names"] (sp_read_sum K)) (X_BadCondition : XC P w K mg base 1 "BadCondition" "at" (He.ga K "BadCondition"))  : FnOk P w K mg base (L2.CX P w) 3 f fd ["self"] (sp_Reader_sum_terms K) := by
  refine F.ok sc_Reader_sum_terms (fun vs H Q E h => ?_) (fun cdv A outer s H vs Q E hr h => ?_)
  · obtain ⟨a, l, n, rfl, _⟩ := h
    rfl
  · have nd := sc_Reader_sum_terms.nd
    have tk := takes_of (E := E) (X := (cxOf (L2.CX P w) P w K mg base ["self", "terms", "stop"] "Reader.sum_terms" (defScope s_Reader_sum_terms) f cdv A outer s H E)) rfl rfl rfl rfl
    have po : PassesOwn (model P w) (cxOf (L2.CX P w) P w K mg base ["self", "terms", "stop"] "Reader.sum_terms" (defScope s_Reader_sum_terms) f cdv A outer s H E).A (cxOf (L2.CX P w) P w K mg base ["self", "terms", "stop"] "Reader.sum_terms" (defScope s_Reader_sum_terms) f cdv A outer s H E).env (cxOf (L2.CX P w) P w K mg base ["self", "terms", "stop"] "Reader.sum_terms" (defScope s_Reader_sum_terms) f cdv A outer s H E).xe := passes_of (X := (cxOf (L2.CX P w) P w K mg base ["self", "terms", "stop"] "Reader.sum_terms" (defScope s_Reader_sum_terms) f cdv A outer s H E)) rfl
    have cR := T.c_Reader
    have a1 := T.a_Reader_tokens
    have a2 := T.a_Reader_names
    have a3 := T.a_Reader_handles
    have a4 := T.a_Reader_requests
    have a5 := T.a_Reader_at
    
    obtain ⟨a, l, n, rfl, hR, hl, kE, kQ⟩ := h
    have hR' := hR
    obtain ⟨h1, h2, h3, h4, h5⟩ := hR
    refine ⟨_, (pss_cons (ps_asg (q_call C_read_sum tk (hr.mono (by decide)) (pa_cons (q_fld K (pv 0)) (pa_cons (q_fld K (pv 0)) (pa_cons (q_fld K (pv 0)) pa_nil)))) (q_gtup K 2 (pgs_cons (q_name 1 nd) (pgs_cons (q_name 2 nd) pgs_nil)))) (pss_cons (q_sfld K (pv 0) (pv 2)) (pss_cons (ps_if (pt_cmpR op_dIs (pv 1) pe_non (nomark _)) (pss_one (q_raise X_BadCondition tk (hr.mono (by decide)) (pa_cons (pv 2) pa_nil))) pss_nil) (pss_one (ps_ret (pv 1)))))), ?_⟩
    refine g_start (σ' := some _ :: none :: none :: []) rfl ?_
    walk_at "go"
    refine ⟨a.p, a.q, l.toks, l.names, n, rfl, SqL.of h2, SqL.of h3, hl, fun t H1 s1 ht hrs => ?_⟩
    have hR1 := hR'.same s1
    obtain ⟨g1, g2, g3, g4, g5⟩ := hR1
    unfold sumR at kE kQ
    rcases e : readS l.names l.toks 5 n 1 [] with ⟨_ | ts, m⟩
    · rw [e] at hrs kE
      have hrs : H1 t = some (.tup [.non, .int (m : Nat)]) := hrs
      walk_at "go"
      refine g_iteD (fun _ => ?_) (fun z => absurd rfl z)
      walk_at "go"
      intro d hd
      exact kE m rfl d _ (((Sx.of s1).put (by simp)).new hd) upd_same
    · rw [e] at hrs kQ
      obtain ⟨p, hp0, ht1, hts⟩ := hrs
      walk_at "go"
      refine g_iteD (fun z => by cases z) (fun _ => ?_)
      walk_at "go"
      refine kQ ts m rfl p _ ((Sx.of s1).put (by simp)) (RdAt.step ⟨g1, g2, g3, g4, g5⟩ rfl) hp0 (hts.sx ((Sx.refl H1).put (by simp)) g1)
end
section
variable {P : Program} {w : World} {K : PySem.W.Frag} {mg : Str → Option Value} {base : Heap}
theorem ok_Reader_read_atom {f : Addr} {fd : FuncData} (F : FnP K "read_atom" "Reader.read_atom" s_Reader_read_atom f fd) (T : Txt K mg) (N_Reader_peek : MtC P w K mg base 1 (He.ga K "Reader") "peek" ["self"] (sp_Reader_peek K)) (N_Reader_sum_terms : MtC P w K mg base 3 (He.ga K "Reader") "sum_terms" ["self"] (sp_Reader_sum_terms K)) (N_Reader_take : MtC P w K mg base 3 (He.ga K "Reader") "take" ["self", "allowed"] (sp_Reader_take K))  : FnOk P w K mg base (L2.CX P w) 4 f fd ["self"] (sp_Reader_read_atom K) := by
  refine F.ok sc_Reader_read_atom (fun vs H Q E h => ?_) (fun cdv A outer s H vs Q E hr h => ?_)
  · obtain ⟨a, l, n, rfl, _⟩ := h
    rfl
  · have nd := sc_Reader_read_atom.nd
    have tk := takes_of (E := E) (X := (cxOf (L2.CX P w) P w K mg base ["self", "wanted", "word", "left", "sign"] "Reader.read_atom" (defScope s_Reader_read_atom) f cdv A outer s H E)) rfl rfl rfl rfl
    have po : PassesOwn (model P w) (cxOf (L2.CX P w) P w K mg base ["self", "wanted", "word", "left", "sign"] "Reader.read_atom" (defScope s_Reader_read_atom) f cdv A outer s H E).A (cxOf (L2.CX P w) P w K mg base ["self", "wanted", "word", "left", "sign"] "Reader.read_atom" (defScope s_Reader_read_atom) f cdv A outer s H E).env (cxOf (L2.CX P w) P w K mg base ["self", "wanted", "word", "left", "sign"] "Reader.read_atom" (defScope s_Reader_read_atom) f cdv A outer s H E).xe := passes_of (X := (cxOf (L2.CX P w) P w K mg base ["self", "wanted", "word", "left", "sign"] "Reader.read_atom" (defScope s_Reader_read_atom) f cdv A outer s H E)) rfl
    have cR := T.c_Reader
    have a1 := T.a_Reader_tokens
    have a2 := T.a_Reader_names
    have a3 := T.a_Reader_handles
    have a4 := T.a_Reader_requests
    have a5 := T.a_Reader_at
    
    obtain ⟨a, l, n, rfl, hR, hl, kE, kQ⟩ := h
    refine ⟨_, (pss_cons (q_set 1 nd pe_bl) (pss_cons (ps_while po (pt_cmpR (op_dEq K hr.units) (q_meth0 N_Reader_peek tk (hr.mono (by decide)) (pv 0)) pe_str (nomark _)) (pss_cons (q_afld K (pv 0) pe_int in_add) (pss_one (q_set 1 nd (q_notT K (pv 1)))))) (pss_cons (q_set 2 nd (q_meth0 N_Reader_peek tk (hr.mono (by decide)) (pv 0))) (pss_cons (ps_match (pv 2) (pmc_consG (pp_or (ppl_cons pp_val (ppl_cons pp_val ppl_nil))) (q_truth K (q_fld K (pv 0))) (pss_cons (q_afld K (pv 0) pe_int in_add) (pss_one (ps_ret (pe_tup (pa_cons (pv 1) (pa_cons (pv 2) (pa_cons (q_meth N_Reader_take tk (hr.mono (by decide)) (pv 0) (pa_cons (q_fld K (pv 0)) pa_nil)) (pa_cons pe_int pa_nil)))))))) (pmc_consG pp_val (q_truth K (q_fld K (pv 0))) (pss_cons (q_afld K (pv 0) pe_int in_add) (pss_one (ps_ret (pe_tup (pa_cons (pv 1) (pa_cons (pv 2) (pa_cons (q_meth N_Reader_take tk (hr.mono (by decide)) (pv 0) (pa_cons (q_fld K (pv 0)) pa_nil)) (pa_cons pe_int pa_nil)))))))) pmc_nil))) (pss_cons (q_set 3 nd (q_meth0 N_Reader_sum_terms tk (hr.mono (by decide)) (pv 0))) (pss_cons (q_set 4 nd (q_meth N_Reader_take tk (hr.mono (by decide)) (pv 0) (pa_cons (q_glob T.g_SIGNS) pa_nil))) (pss_one (ps_ret (pe_tup (pa_cons (pv 1) (pa_cons (pv 4) (pa_cons (pv 3) (pa_cons (q_meth0 N_Reader_sum_terms tk (hr.mono (by decide)) (pv 0)) pa_nil))))))))))))), ?_⟩
    refine g_start (σ' := some _ :: none :: none :: none :: none :: []) rfl ?_
    walk_at "go"
    refine ⟨fun m σ' H' => ∃ (n1 : Nat) (b : Bool), σ' = [some (.ref a.r), some (.bl b), none, none, none] ∧ Sx [a.r] H H' ∧ RdAt K H' a l n1 ∧ l.toks.length < n1 + m ∧ nots l.toks m n1 b = nots l.toks (l.toks.length + 1) n true, ⟨l.toks.length + 1, n, true, rfl, Sx.refl H, hR, by omega, rfl⟩, ?_⟩
    rintro m σ' H1 ⟨n1, b, rfl, s1, hR1, hm, hnn⟩
    have hR1' := hR1
    obtain ⟨h1, h2, h3, h4, h5⟩ := hR1
    obtain ⟨np, nq, nh, nk⟩ := hR1'.ne
    walk_at "go"
    refine ⟨a, l, n1, rfl, hR1', ?_⟩
    walk_at "go"
    refine g_iteD (fun hno => ?_) (fun hno => ?_)
    · have hlt := pk_lt hno (by decide +kernel)
      obtain ⟨m, rfl⟩ : ∃ j, m = j + 1 := ⟨m - 1, by omega⟩
      refine ⟨_, fun _ _ h => h, ?_⟩
      walk_at "go"
      refine ⟨m, by omega, n1 + 1, !b, rfl, s1.put (by simp), hR1'.step (m := n1 + 1) (by omega), by omega, ?_⟩
      rw [← hnn]
      conv => rhs; unfold nots
      rw [if_pos hno]
    · have hnn2 : nots l.toks (l.toks.length + 1) n true = (n1, b) := by
        rw [← hnn]
        cases m with
        | zero => rfl
        | succ m => unfold nots; rw [if_neg hno]
      have ea : atomR l n = atomB l b n1 := by unfold atomR; rw [hnn2]
      rw [ea] at kE kQ
      walk_at "go"
      refine ⟨a, l, n1, rfl, hR1', ?_⟩
      walk_at "go"
      have wd : ∀ (w : Addr) (ws : List Str) (H2 : Hp), H2 w = some (.lst (ws.map V.str)) → Sx [a.r] H H2 → RdAt K H2 a l (n1 + 1) → (∀ x m, takeR ws l.toks (n1 + 1) = .ok (x, m) → atomB l b n1 = .ok (.word b (pk l.toks n1) x, m)) → (∀ e, takeR ws l.toks (n1 + 1) = .error e → atomB l b n1 = .error e) →
          sp_Reader_take K [.ref a.r, .ref w] H2 (fun x H1 => ([.bl b, .str (pk l.toks n1), x, .int 0] : List V).length ≤ sizeLine ∧ ∀ p, H1 p = none → Q (.ref p) (upd H1 p (.tup [.bl b, .str (pk l.toks n1), x, .int 0]))) (fun cls d H => E cls d H) := by
        intro w ws H2 hw s2 hR2 hok her
        refine ⟨a, l, n1 + 1, w, ws, rfl, hR2, Or.inl (SqL.of hw), fun e he d hd => kE e (her e he) d _ (s2.new hd) upd_same, fun t m ht H3 s3 hR3 => al fun p hp => ?_⟩
        exact kQ _ m (hok t m ht) p _ ((s2.trans s3).new hp) (hR3.same ((Same.refl H3).new hp)) (hR3.fr (s2.trans s3) hp) upd_same
      refine' g_allP (W := ¬ (pk l.toks n1 ∈ (["none", "live"] : List Str) ∧ l.hs ≠ []) ∧ ¬ (pk l.toks n1 ∈ (["open"] : List Str) ∧ l.rs ≠ [])) (fun rest => ?main) ?rest
      case main =>
        refine' g_allP (W := ¬ (pk l.toks n1 ∈ (["none", "live"] : List Str) ∧ l.hs ≠ [])) (fun rest2 => ?main2) ?rest2
        case main2 =>
          refine g_iteD (fun hw => ?_) (fun hw => ?_)
          · walk_at "go"
            refine tru_l (SqL.of h4) ?_
            refine g_ite (fun hh => ?_) (fun hh => ?_)
            · have hc : pk l.toks n1 ∈ (["none", "live"] : List Str) ∧ l.hs ≠ [] := ⟨hw, fun z => by rw [z] at hh; cases hh⟩
              walk_at "go"
              exact wd a.h l.hs _ (by walk_at "hp") (s1.put (by simp)) (hR1'.step (m := n1 + 1) (by omega)) (fun x m e => by unfold atomB; rw [if_pos hc, e]) (fun x e => by unfold atomB; rw [if_pos hc, e])
            · exact rest2 fun z => z.2 (by cases e : l.hs with | nil => rfl | cons _ _ => rw [e] at hh; cases hh)
          · exact rest2 fun z => hw z.1
        case rest2 =>
          intro n2
          walk_at "go"
          refine g_iteD (fun hw => ?_) (fun hw => ?_)
          · walk_at "go"
            refine tru_l (SqL.of h5) ?_
            refine g_ite (fun hh => ?_) (fun hh => ?_)
            · have hc : pk l.toks n1 ∈ (["open"] : List Str) ∧ l.rs ≠ [] := ⟨hw, fun z => by rw [z] at hh; cases hh⟩
              walk_at "go"
              exact wd a.k l.rs _ (by walk_at "hp") (s1.put (by simp)) (hR1'.step (m := n1 + 1) (by omega)) (fun x m e => by unfold atomB; rw [if_neg n2, if_pos hc, e]) (fun x e => by unfold atomB; rw [if_neg n2, if_pos hc, e])
            · exact rest ⟨n2, fun z => z.2 (by cases e : l.rs with | nil => rfl | cons _ _ => rw [e] at hh; cases hh)⟩
          · exact rest ⟨n2, fun z => hw z.1⟩
      case rest =>
        rintro ⟨n2, n3⟩
        walk_at "go"
        refine ⟨a, l, n1, rfl, hR1', hl, fun e he d H2 s2 hd => kE e (by unfold atomB; rw [if_neg n2, if_neg n3, he]) d H2 (s1.trans s2) hd, fun x m1 hx p1 H2 s2 hR2 hp1 ht1 => ?_⟩
        have hr2 := hR2.1
        walk_at "go"
        refine ⟨a, l, m1, He.ga K "SIGNS", signs6, rfl, hR2, Or.inr (T.t_SIGNS H2), fun e he d hd => kE e (by unfold atomB; rw [if_neg n2, if_neg n3, hx]; dsimp only; rw [he]) d _ ((s1.trans s2).new hd) upd_same, fun t2 m2 ht2 H3 s3 hR3 => ?_⟩
        have hr3 := hR3.1
        walk_at "go"
        refine ⟨a, l, m2, rfl, hR3, hl, fun e he d H4 s4 hd => kE e (by unfold atomB; rw [if_neg n2, if_neg n3, hx]; dsimp only; rw [ht2]; dsimp only; rw [he]) d H4 (((s1.trans s2).trans s3).trans s4) hd, fun y m3 hy p3 H4 s4 hR4 hp3 ht3 => ?_⟩
        have s5 := ((s1.trans s2).trans s3).trans s4
        walk_at "go"
        refine al fun t ht => ?_
        have tA := (ht1.sx s3 hR2.1).sx s4 hR3.1
        exact kQ (.cmp b t2 x y) m3 (by unfold atomB; rw [if_neg n2, if_neg n3, hx]; dsimp only; rw [ht2]; dsimp only; rw [hy]) t _ (s5.new ht) (hR4.same ((Same.refl H4).new ht)) (hR4.fr s5 ht)
          ⟨p1, p3, upd_same, hR1'.fr s1 hp1, hR3.fr ((s1.trans s2).trans s3) hp3, tA.same ((Same.refl H4).new ht), ht3.same ((Same.refl H4).new ht)⟩
end
section
variable {P : Program} {w : World} {K : PySem.W.Frag} {mg : Str → Option Value} {base : Heap}
theorem ok_Reader_read_part {f : Addr} {fd : FuncData} (F : FnP K "read_part" "Reader.read_part" s_Reader_read_part f fd) (T : Txt K mg) (N_Reader_peek : MtC P w K mg base 1 (He.ga K "Reader") "peek" ["self"] (sp_Reader_peek K)) (N_Reader_read_atom : MtC P w K mg base 4 (He.ga K "Reader") "read_atom" ["self"] (sp_Reader_read_atom K))  : FnOk P w K mg base (L2.CX P w) 5 f fd ["self"] (sp_Reader_read_part K) := by
  refine F.ok sc_Reader_read_part (fun vs H Q E h => ?_) (fun cdv A outer s H vs Q E hr h => ?_)
  · obtain ⟨a, l, n, rfl, _⟩ := h
    rfl
  · have nd := sc_Reader_read_part.nd
    have tk := takes_of (E := E) (X := (cxOf (L2.CX P w) P w K mg base ["self", "atoms"] "Reader.read_part" (defScope s_Reader_read_part) f cdv A outer s H E)) rfl rfl rfl rfl
    have po : PassesOwn (model P w) (cxOf (L2.CX P w) P w K mg base ["self", "atoms"] "Reader.read_part" (defScope s_Reader_read_part) f cdv A outer s H E).A (cxOf (L2.CX P w) P w K mg base ["self", "atoms"] "Reader.read_part" (defScope s_Reader_read_part) f cdv A outer s H E).env (cxOf (L2.CX P w) P w K mg base ["self", "atoms"] "Reader.read_part" (defScope s_Reader_read_part) f cdv A outer s H E).xe := passes_of (X := (cxOf (L2.CX P w) P w K mg base ["self", "atoms"] "Reader.read_part" (defScope s_Reader_read_part) f cdv A outer s H E)) rfl
    have cR := T.c_Reader
    have a1 := T.a_Reader_tokens
    have a2 := T.a_Reader_names
    have a3 := T.a_Reader_handles
    have a4 := T.a_Reader_requests
    have a5 := T.a_Reader_at
    
    obtain ⟨a, l, n, rfl, hR, hl, kE, kQ⟩ := h
    have h1 := hR.1
    refine ⟨_, (pss_cons (q_set 1 nd (pe_lst (pa_cons (q_meth0 N_Reader_read_atom tk (hr.mono (by decide)) (pv 0)) pa_nil))) (pss_cons (ps_while po (pt_cmpR (op_dEq K hr.units) (q_meth0 N_Reader_peek tk (hr.mono (by decide)) (pv 0)) pe_str (nomark _)) (pss_cons (q_afld K (pv 0) pe_int in_add) (pss_one (ps_expr (q_bm K PySem.F.plainAttrs_list PySem.F.slot_list_append PySem.F.type_list_append m_append (pv 1) (pa_cons (q_meth0 N_Reader_read_atom tk (hr.mono (by decide)) (pv 0)) pa_nil)))))) (pss_one (ps_ret (pv 1))))), ?_⟩
    refine g_start (σ' := some _ :: none :: []) rfl ?_
    walk_at "go"
    have eM : partR l n = match atomR l n with
      | .error e => .error e
      | .ok (x, m) => moreR "and" (atomR l) l.toks (l.toks.length + 1) [x] m := by
      unfold partR manyR
      cases atomR l n with
      | error e => rfl
      | ok x => cases x; rfl
    rcases e0 : atomR l n with e | ⟨x0, m0⟩
    · rw [e0] at eM
      refine ⟨a, l, n, rfl, hR, hl.1, fun x hx => ?_, fun x m hx => ?_⟩
      · rw [e0] at hx
        cases hx
        exact kE e eM
      · rw [e0] at hx
        cases hx
    rw [e0] at eM
    dsimp only at eM
    refine ⟨a, l, n, rfl, hR, hl.1, (fun x hx => by rw [e0] at hx; cases hx), fun x m hx t0 H1 s1 hR1 ht0 hat => ?_⟩
    rw [e0] at hx
    cases hx
    walk_at "go"
    refine al fun p hp => ?_
    have hp0 := hR1.fr s1 hp
    walk_at "go"
    rw [eM] at kE kQ
    clear eM
    refine ⟨fun m σ' H' => ∃ (n1 : Nat) (acc : List _) (as : List Addr), σ' = [some (.ref a.r), some (.ref p)] ∧ Sx [a.r] H H' ∧ RdAt K H' a l n1 ∧ H' p = some (.lst (as.map V.ref)) ∧ Paired (AtomAt (fun a => H a = none ∧ a ≠ p) H') as acc ∧ n ≤ n1 ∧ acc.length ≤ n1 + 1 ∧ l.toks.length < n1 + m ∧ moreR "and" (atomR l) l.toks m acc n1 = moreR "and" (atomR l) l.toks (l.toks.length + 1) [x0] m0,
      ⟨l.toks.length + 1, m0, [x0], [t0], rfl, s1.new hp, hR1.same ((Same.refl H1).new hp), upd_same, .cons (AtomAt.mv hat ((Mv.weak fun b hb fb => ⟨fb, fun z => hb (z ▸ hp)⟩).trans (Mv.same ((Same.refl H1).new hp)))) .nil, atomR_ge e0, by show 1 ≤ m0 + 1; omega, by omega, rfl⟩, ?_⟩
    rintro m σ' H2 ⟨n1, acc, as, rfl, s2, hR2, hp2, hpa, hn1, hac, hm, hmo⟩
    have h21 := hR2.1
    walk_at "go"
    refine ⟨a, l, n1, rfl, hR2, ?_⟩
    walk_at "go"
    refine g_iteD (fun hs => ?_) (fun hs => ?_)
    · have hlt := pk_lt hs (by decide +kernel)
      obtain ⟨m, rfl⟩ : ∃ j, m = j + 1 := ⟨m - 1, by omega⟩
      refine ⟨_, fun _ _ h => h, ?_⟩
      walk_at "go"
      have hR3 := hR2.step (m := n1 + 1) (v := (n1 : Int) + 1) (by omega)
      have eN : moreR "and" (atomR l) l.toks (m + 1) acc n1 = match atomR l (n1 + 1) with
          | .error e => .error e
          | .ok (a, m') => moreR "and" (atomR l) l.toks m (acc ++ [a]) m' := by
        conv => lhs; unfold moreR
        rw [if_pos hs]
        cases atomR l (n1 + 1) with
        | error e => rfl
        | ok x => cases x; rfl
      rw [eN] at hmo
      have npr : p ≠ a.r := fun z => by rw [z, h21] at hp2; cases hp2
      rcases e1 : atomR l (n1 + 1) with e | ⟨x1, m1⟩
      · rw [e1] at hmo
        dsimp only at hmo
        refine ⟨a, l, n1 + 1, rfl, hR3, hl.1, fun e' he d H3 s3 hd => ?_, (fun x m hx => by rw [e1] at hx; cases hx)⟩
        rw [e1] at he
        cases he
        exact kE e hmo.symm d H3 ((s2.put (by simp)).trans s3) hd
      · rw [e1] at hmo
        dsimp only at hmo
        refine ⟨a, l, n1 + 1, rfl, hR3, hl.1, (fun x hx => by rw [e1] at hx; cases hx), fun x m hx t1 H3 s3 hR4 ht1 hat1 => ?_⟩
        rw [e1] at hx
        cases hx
        have hp3 : H3 p = some (.lst (as.map V.ref)) := s3.get1 npr (by rw [upd_ne npr]; exact hp2)
        have hlen := Paired.length hpa
        have hTl := hl.2
        have hge := atomR_ge e1
        have s4 := (s2.put (o := .ins (He.ga K "Reader") a.dx (putF "at" (.int ((n1 : Int) + 1)) (rdFs a n1))) (by simp)).trans s3
        walk_at "go"
        refine ⟨m, by omega, m1, acc ++ [x1], as ++ [t1], rfl, s4.mut hp0, hR4.mut hR hp0, by rw [upd_same, List.map_append]; rfl, paired_snoc (Paired.mapP hpa fun t x z => AtomAt.mv z (((Mv.sx ((Sx.refl H2).put (by simp)) h21).trans (Mv.sx s3 hR3.1)).trans (Mv.put hp3 fun z => z.2 rfl)))
          (AtomAt.mv hat1 ((Mv.weak fun b hb fb => ?_).trans (Mv.put hp3 fun z => z.2 rfl))), by omega, by rw [List.length_append, List.length_singleton]; omega, by omega, hmo⟩
        exact ⟨hR3.fr (s2.put (by simp)) fb, fun z => by rw [z, upd_ne npr, hp2] at fb; cases fb⟩
    · have e2 : moreR "and" (atomR l) l.toks m acc n1 = .ok (acc, n1) := by
        cases m with
        | zero => rfl
        | succ m => unfold moreR; rw [if_neg hs]
      rw [← hmo, e2] at kQ
      walk_at "go"
      exact kQ acc n1 rfl p H2 s2 hR2 hp0 ⟨hp0, as, hp2, Paired.mapP hpa fun t x z => AtomAt.mv z (Mv.weak fun _ _ f => f.1)⟩
end
section
variable {P : Program} {w : World} {K : PySem.W.Frag} {mg : Str → Option Value} {base : Heap}
theorem ok_Reader_read_condition {f : Addr} {fd : FuncData} (F : FnP K "read_condition" "Reader.read_condition" s_Reader_read_condition f fd) (T : Txt K mg) (N_Reader_peek : MtC P w K mg base 1 (He.ga K "Reader") "peek" ["self"] (sp_Reader_peek K)) (N_Reader_read_part : MtC P w K mg base 5 (He.ga K "Reader") "read_part" ["self"] (sp_Reader_read_part K))  : FnOk P w K mg base (L2.CX P w) 6 f fd ["self"] (sp_Reader_read_condition K) := by
  refine F.ok sc_Reader_read_condition (fun vs H Q E h => ?_) (fun cdv A outer s H vs Q E hr h => ?_)
  · obtain ⟨a, l, n, rfl, _⟩ := h
    rfl
  · have nd := sc_Reader_read_condition.nd
    have tk := takes_of (E := E) (X := (cxOf (L2.CX P w) P w K mg base ["self", "parts"] "Reader.read_condition" (defScope s_Reader_read_condition) f cdv A outer s H E)) rfl rfl rfl rfl
    have po : PassesOwn (model P w) (cxOf (L2.CX P w) P w K mg base ["self", "parts"] "Reader.read_condition" (defScope s_Reader_read_condition) f cdv A outer s H E).A (cxOf (L2.CX P w) P w K mg base ["self", "parts"] "Reader.read_condition" (defScope s_Reader_read_condition) f cdv A outer s H E).env (cxOf (L2.CX P w) P w K mg base ["self", "parts"] "Reader.read_condition" (defScope s_Reader_read_condition) f cdv A outer s H E).xe := passes_of (X := (cxOf (L2.CX P w) P w K mg base ["self", "parts"] "Reader.read_condition" (defScope s_Reader_read_condition) f cdv A outer s H E)) rfl
    have cR := T.c_Reader
    have a1 := T.a_Reader_tokens
    have a2 := T.a_Reader_names
    have a3 := T.a_Reader_handles
    have a4 := T.a_Reader_requests
    have a5 := T.a_Reader_at
    
    obtain ⟨a, l, n, rfl, hR, hl, kE, kQ⟩ := h
    have h1 := hR.1
    refine ⟨_, (pss_cons (q_set 1 nd (pe_lst (pa_cons (q_meth0 N_Reader_read_part tk (hr.mono (by decide)) (pv 0)) pa_nil))) (pss_cons (ps_while po (pt_cmpR (op_dEq K hr.units) (q_meth0 N_Reader_peek tk (hr.mono (by decide)) (pv 0)) pe_str (nomark _)) (pss_cons (q_afld K (pv 0) pe_int in_add) (pss_one (ps_expr (q_bm K PySem.F.plainAttrs_list PySem.F.slot_list_append PySem.F.type_list_append m_append (pv 1) (pa_cons (q_meth0 N_Reader_read_part tk (hr.mono (by decide)) (pv 0)) pa_nil)))))) (pss_one (ps_ret (pv 1))))), ?_⟩
    refine g_start (σ' := some _ :: none :: []) rfl ?_
    walk_at "go"
    have eM : condR l n = match partR l n with
      | .error e => .error e
      | .ok (x, m) => moreR "or" (partR l) l.toks (l.toks.length + 1) [x] m := by
      unfold condR manyR
      cases partR l n with
      | error e => rfl
      | ok x => cases x; rfl
    rcases e0 : partR l n with e | ⟨x0, m0⟩
    · rw [e0] at eM
      refine ⟨a, l, n, rfl, hR, hl, fun x hx => ?_, fun x m hx => ?_⟩
      · rw [e0] at hx
        cases hx
        exact kE e eM
      · rw [e0] at hx
        cases hx
    rw [e0] at eM
    dsimp only at eM
    refine ⟨a, l, n, rfl, hR, hl, (fun x hx => by rw [e0] at hx; cases hx), fun x m hx t0 H1 s1 hR1 ht0 hat => ?_⟩
    rw [e0] at hx
    cases hx
    walk_at "go"
    refine al fun p hp => ?_
    have hp0 := hR1.fr s1 hp
    walk_at "go"
    rw [eM] at kE kQ
    clear eM
    refine ⟨fun m σ' H' => ∃ (n1 : Nat) (acc : List _) (as : List Addr), σ' = [some (.ref a.r), some (.ref p)] ∧ Sx [a.r] H H' ∧ RdAt K H' a l n1 ∧ H' p = some (.lst (as.map V.ref)) ∧ Paired (PartAt (fun a => H a = none ∧ a ≠ p) H') as acc ∧ n ≤ n1 ∧ acc.length ≤ n1 + 1 ∧ l.toks.length < n1 + m ∧ moreR "or" (partR l) l.toks m acc n1 = moreR "or" (partR l) l.toks (l.toks.length + 1) [x0] m0,
      ⟨l.toks.length + 1, m0, [x0], [t0], rfl, s1.new hp, hR1.same ((Same.refl H1).new hp), upd_same, .cons (PartAt.mv hat ((Mv.weak fun b hb fb => ⟨fb, fun z => hb (z ▸ hp)⟩).trans (Mv.same ((Same.refl H1).new hp)))) .nil, partR_ge e0, by show 1 ≤ m0 + 1; omega, by omega, rfl⟩, ?_⟩
    rintro m σ' H2 ⟨n1, acc, as, rfl, s2, hR2, hp2, hpa, hn1, hac, hm, hmo⟩
    have h21 := hR2.1
    walk_at "go"
    refine ⟨a, l, n1, rfl, hR2, ?_⟩
    walk_at "go"
    refine g_iteD (fun hs => ?_) (fun hs => ?_)
    · have hlt := pk_lt hs (by decide +kernel)
      obtain ⟨m, rfl⟩ : ∃ j, m = j + 1 := ⟨m - 1, by omega⟩
      refine ⟨_, fun _ _ h => h, ?_⟩
      walk_at "go"
      have hR3 := hR2.step (m := n1 + 1) (v := (n1 : Int) + 1) (by omega)
      have eN : moreR "or" (partR l) l.toks (m + 1) acc n1 = match partR l (n1 + 1) with
          | .error e => .error e
          | .ok (a, m') => moreR "or" (partR l) l.toks m (acc ++ [a]) m' := by
        conv => lhs; unfold moreR
        rw [if_pos hs]
        cases partR l (n1 + 1) with
        | error e => rfl
        | ok x => cases x; rfl
      rw [eN] at hmo
      have npr : p ≠ a.r := fun z => by rw [z, h21] at hp2; cases hp2
      rcases e1 : partR l (n1 + 1) with e | ⟨x1, m1⟩
      · rw [e1] at hmo
        dsimp only at hmo
        refine ⟨a, l, n1 + 1, rfl, hR3, hl, fun e' he d H3 s3 hd => ?_, (fun x m hx => by rw [e1] at hx; cases hx)⟩
        rw [e1] at he
        cases he
        exact kE e hmo.symm d H3 ((s2.put (by simp)).trans s3) hd
      · rw [e1] at hmo
        dsimp only at hmo
        refine ⟨a, l, n1 + 1, rfl, hR3, hl, (fun x hx => by rw [e1] at hx; cases hx), fun x m hx t1 H3 s3 hR4 ht1 hat1 => ?_⟩
        rw [e1] at hx
        cases hx
        have hp3 : H3 p = some (.lst (as.map V.ref)) := s3.get1 npr (by rw [upd_ne npr]; exact hp2)
        have hlen := Paired.length hpa
        have hTl := hl.2
        have hge := partR_ge e1
        have s4 := (s2.put (o := .ins (He.ga K "Reader") a.dx (putF "at" (.int ((n1 : Int) + 1)) (rdFs a n1))) (by simp)).trans s3
        walk_at "go"
        refine ⟨m, by omega, m1, acc ++ [x1], as ++ [t1], rfl, s4.mut hp0, hR4.mut hR hp0, by rw [upd_same, List.map_append]; rfl, paired_snoc (Paired.mapP hpa fun t x z => PartAt.mv z (((Mv.sx ((Sx.refl H2).put (by simp)) h21).trans (Mv.sx s3 hR3.1)).trans (Mv.put hp3 fun z => z.2 rfl)))
          (PartAt.mv hat1 ((Mv.weak fun b hb fb => ?_).trans (Mv.put hp3 fun z => z.2 rfl))), by omega, by rw [List.length_append, List.length_singleton]; omega, by omega, hmo⟩
        exact ⟨hR3.fr (s2.put (by simp)) fb, fun z => by rw [z, upd_ne npr, hp2] at fb; cases fb⟩
    · have e2 : moreR "or" (partR l) l.toks m acc n1 = .ok (acc, n1) := by
        cases m with
        | zero => rfl
        | succ m => unfold moreR; rw [if_neg hs]
      rw [← hmo, e2] at kQ
      walk_at "go"
      exact kQ acc n1 rfl p H2 s2 hR2 hp0 ⟨hp0, as, hp2, Paired.mapP hpa fun t x z => PartAt.mv z (Mv.weak fun _ _ f => f.1)⟩
end
section
variable {P : Program} {w : World} {K : PySem.W.Frag} {mg : Str → Option Value} {base : Heap}
theorem ok_Reader___init__ {f : Addr} {fd : FuncData} (F : FnP K "__init__" "Reader.__init__" s_Reader___init__ f fd) (T : Txt K mg)   : FnOk P w K mg base (L2.CX P w) 1 f fd ["self", "tokens", "names", "handles", "requests"] (sp_Reader___init__ K) := by
  refine F.ok sc_Reader___init__ (fun vs H Q E h => ?_) (fun cdv A outer s H vs Q E hr h => ?_)
  · obtain ⟨x, dx, p, q, h, k, l, rfl, _⟩ := h
    rfl
  · have nd := sc_Reader___init__.nd
    have tk := takes_of (E := E) (X := (cxOf (L2.CX P w) P w K mg base ["self", "tokens", "names", "handles", "requests"] "Reader.__init__" (defScope s_Reader___init__) f cdv A outer s H E)) rfl rfl rfl rfl
    have po : PassesOwn (model P w) (cxOf (L2.CX P w) P w K mg base ["self", "tokens", "names", "handles", "requests"] "Reader.__init__" (defScope s_Reader___init__) f cdv A outer s H E).A (cxOf (L2.CX P w) P w K mg base ["self", "tokens", "names", "handles", "requests"] "Reader.__init__" (defScope s_Reader___init__) f cdv A outer s H E).env (cxOf (L2.CX P w) P w K mg base ["self", "tokens", "names", "handles", "requests"] "Reader.__init__" (defScope s_Reader___init__) f cdv A outer s H E).xe := passes_of (X := (cxOf (L2.CX P w) P w K mg base ["self", "tokens", "names", "handles", "requests"] "Reader.__init__" (defScope s_Reader___init__) f cdv A outer s H E)) rfl
    have cR := T.c_Reader
    have a1 := T.a_Reader_tokens
    have a2 := T.a_Reader_names
    have a3 := T.a_Reader_handles
    have a4 := T.a_Reader_requests
    have a5 := T.a_Reader_at
    
    obtain ⟨x, dx, p, q, h, k, l, rfl, hx, hp, hq, hh, hk, kQ⟩ := h
    have npx : p ≠ x := fun z => by rw [z, hx] at hp; cases hp
    refine ⟨_, (pss_cons (q_sfld K (pv 0) (pv 1)) (pss_cons (q_sfld K (pv 0) (pe_callTy (cl_list K) (by rfl) T.n_list bt_list (pa_cons (pv 2) pa_nil))) (pss_cons (q_sfld K (pv 0) (pe_callTy (cl_list K) (by rfl) T.n_list bt_list (pa_cons (pv 3) pa_nil))) (pss_cons (q_sfld K (pv 0) (pe_callTy (cl_list K) (by rfl) T.n_list bt_list (pa_cons (pv 4) pa_nil))) (pss_one (q_sfld K (pv 0) pe_int)))))), ?_⟩
    refine g_start (σ' := some _ :: some _ :: some _ :: some _ :: some _ :: []) rfl ?_
    walk_at "go"
    refine g_listL (Or.inl (sqL_sx hq ((Sx.refl H).put (by simp)) hx)) fun q1 hq1 => ?_
    have nq1 : x ≠ q1 := ne_of_none upd_same hq1
    walk_at "go"
    have sA : Sx [x] H (upd (upd (upd H x (.ins (He.ga K "Reader") dx (putF "tokens" (.ref p) []))) q1 (.lst (l.names.map V.str))) x (.ins (He.ga K "Reader") dx (putF "names" (.ref q1) (putF "tokens" (.ref p) [])))) := (((Sx.refl H).put (by simp)).new hq1).put (by simp)
    have hxA : upd (upd (upd H x (.ins (He.ga K "Reader") dx (putF "tokens" (.ref p) []))) q1 (.lst (l.names.map V.str))) x (.ins (He.ga K "Reader") dx (putF "names" (.ref q1) (putF "tokens" (.ref p) []))) x = some (.ins (He.ga K "Reader") dx [("tokens", .ref p), ("names", .ref q1)]) := by
      rw [upd_same, putF_nil, putF_ne (by decide +kernel), putF_nil]
    have hqA : upd (upd (upd H x (.ins (He.ga K "Reader") dx (putF "tokens" (.ref p) []))) q1 (.lst (l.names.map V.str))) x (.ins (He.ga K "Reader") dx (putF "names" (.ref q1) (putF "tokens" (.ref p) []))) q1 = some (.lst (l.names.map V.str)) := by
      rw [upd_ne nq1.symm, upd_same]
    generalize upd (upd (upd H x (.ins (He.ga K "Reader") dx (putF "tokens" (.ref p) []))) q1 (.lst (l.names.map V.str))) x (.ins (He.ga K "Reader") dx (putF "names" (.ref q1) (putF "tokens" (.ref p) []))) = HA at sA hxA hqA ⊢
    refine g_listL (Or.inl (sqL_sx hh sA hx)) fun h1 hh1 => ?_
    have nh1 : x ≠ h1 := ne_of_none hxA hh1
    walk_at "go"
    have sB : Sx [x] H (upd (upd HA h1 (.lst (l.hs.map V.str))) x (.ins (He.ga K "Reader") dx (putF "handles" (.ref h1) [("tokens", .ref p), ("names", .ref q1)]))) := (sA.new hh1).put (by simp)
    have hxB : upd (upd HA h1 (.lst (l.hs.map V.str))) x (.ins (He.ga K "Reader") dx (putF "handles" (.ref h1) [("tokens", .ref p), ("names", .ref q1)])) x = some (.ins (He.ga K "Reader") dx [("tokens", .ref p), ("names", .ref q1), ("handles", .ref h1)]) := by
      rw [upd_same, putF_ne (by decide +kernel), putF_ne (by decide +kernel), putF_nil]
    have hqB : upd (upd HA h1 (.lst (l.hs.map V.str))) x (.ins (He.ga K "Reader") dx (putF "handles" (.ref h1) [("tokens", .ref p), ("names", .ref q1)])) q1 = some (.lst (l.names.map V.str)) := by
      rw [upd_ne nq1.symm, upd_ne (ne_of_none hqA hh1)]; exact hqA
    have hhB : upd (upd HA h1 (.lst (l.hs.map V.str))) x (.ins (He.ga K "Reader") dx (putF "handles" (.ref h1) [("tokens", .ref p), ("names", .ref q1)])) h1 = some (.lst (l.hs.map V.str)) := by
      rw [upd_ne nh1.symm, upd_same]
    generalize upd (upd HA h1 (.lst (l.hs.map V.str))) x (.ins (He.ga K "Reader") dx (putF "handles" (.ref h1) [("tokens", .ref p), ("names", .ref q1)])) = HB at sB hxB hqB hhB ⊢
    refine g_listL (Or.inl (sqL_sx hk sB hx)) fun k1 hk1 => ?_
    have nk1 : x ≠ k1 := ne_of_none hxB hk1
    walk_at "go"
    refine kQ ⟨x, dx, p, q1, h1, k1⟩ _ rfl rfl (((sB.new hk1).put (by simp)).put (by simp)) ⟨?_, ?_, ?_, ?_, ?_⟩
    · show upd _ x _ x = _
      rw [upd_same]
      repeat (first | rw [putF_nil] | rw [putF_ne (by decide +kernel)])
      rfl
    · exact (((sB.new hk1).put (by simp)).put (by simp)) p _ (by simpa using npx) hp
    · show upd _ x _ q1 = _
      rw [upd_ne nq1.symm, upd_ne nq1.symm, upd_ne (ne_of_none hqB hk1)]; exact hqB
    · show upd _ x _ h1 = _
      rw [upd_ne nh1.symm, upd_ne nh1.symm, upd_ne (ne_of_none hhB hk1)]; exact hhB
    · show upd _ x _ k1 = _
      rw [upd_ne nk1.symm, upd_ne nk1.symm, upd_same]
end
section
variable {P : Program} {w : World} {K : PySem.W.Frag} {mg : Str → Option Value} {base : Heap}
theorem ok_Condition___init__ {f : Addr} {fd : FuncData} (F : FnP K "__init__" "Condition.__init__" s_Condition___init__ f fd) (T : Txt K mg) (M_Reader : MkC P w K mg base 1 "Reader" (He.ga K "Reader") ["self", "tokens", "names", "handles", "requests"] (sp_Reader___init__ K)) (N_Reader_read_condition : MtC P w K mg base 6 (He.ga K "Reader") "read_condition" ["self"] (sp_Reader_read_condition K)) (X_BadCondition : XC P w K mg base 1 "BadCondition" "at" (He.ga K "BadCondition"))  : FnOk P w K mg base (L2.CX P w) 7 f fd ["self", "text", "names", "handles", "requests"] (sp_Condition___init__ K) := by
  refine F.ok sc_Condition___init__ (fun vs H Q E h => ?_) (fun cdv A outer s H vs Q E hr h => ?_)
  · obtain ⟨x, dx, q, h, k, text, l, rfl, _⟩ := h
    rfl
  · have nd := sc_Condition___init__.nd
    have tk := takes_of (E := E) (X := (cxOf (L2.CX P w) P w K mg base ["self", "text", "names", "handles", "requests", "tokens", "reader"] "Condition.__init__" (defScope s_Condition___init__) f cdv A outer s H E)) rfl rfl rfl rfl
    have po : PassesOwn (model P w) (cxOf (L2.CX P w) P w K mg base ["self", "text", "names", "handles", "requests", "tokens", "reader"] "Condition.__init__" (defScope s_Condition___init__) f cdv A outer s H E).A (cxOf (L2.CX P w) P w K mg base ["self", "text", "names", "handles", "requests", "tokens", "reader"] "Condition.__init__" (defScope s_Condition___init__) f cdv A outer s H E).env (cxOf (L2.CX P w) P w K mg base ["self", "text", "names", "handles", "requests", "tokens", "reader"] "Condition.__init__" (defScope s_Condition___init__) f cdv A outer s H E).xe := passes_of (X := (cxOf (L2.CX P w) P w K mg base ["self", "text", "names", "handles", "requests", "tokens", "reader"] "Condition.__init__" (defScope s_Condition___init__) f cdv A outer s H E)) rfl
    have cR := T.c_Reader
    have a1 := T.a_Reader_tokens
    have a2 := T.a_Reader_names
    have a3 := T.a_Reader_handles
    have a4 := T.a_Reader_requests
    have a5 := T.a_Reader_at
    
    have cC := T.c_Condition
    have aP := T.a_Condition_parts
    have aS := T.a_Condition_shown
    obtain ⟨x, dx, q, h, k, text, l, rfl, hx, hq, hh, hk, hw, hl, kE, kQ⟩ := h
    have hww := StrLaws.words_weight text
    have hTk : TkL l.toks := by
      rw [hw]
      exact ⟨fun t ht => Nat.le_trans (lens_words ht) hl, Nat.le_trans words_many (by omega)⟩
    refine ⟨_, (pss_cons (q_set 5 nd (q_bm0 K PySem.F.plainAttrs_str PySem.F.slot_str_split PySem.F.type_str_split m_words (pv 1))) (pss_cons (q_set 6 nd (q_make M_Reader tk (hr.mono (by decide)) (pa_cons (pv 5) (pa_cons (pv 2) (pa_cons (pv 3) (pa_cons (pv 4) pa_nil)))))) (pss_cons (q_sfld K (pv 0) (q_meth0 N_Reader_read_condition tk (hr.mono (by decide)) (pv 6))) (pss_cons (ps_if (pt_cmpR op_dLt (q_fld K (pv 6)) (pe_callB (cl_len K) (by rfl) T.n_len bt_len (pa_cons (pv 5) pa_nil)) (nomark _)) (pss_one (q_raise X_BadCondition tk (hr.mono (by decide)) (pa_cons (q_fld K (pv 6)) pa_nil))) pss_nil) (pss_one (q_sfld K (pv 0) (q_bm K PySem.F.plainAttrs_str PySem.F.slot_str_join PySem.F.type_str_join (m_join K) pe_str (pa_cons (pv 5) pa_nil)))))))), ?_⟩
    refine g_start (σ' := some _ :: some _ :: some _ :: some _ :: some _ :: none :: none :: []) rfl ?_
    walk_at "go"
    intro tp htp
    walk_at "go"
    intro r dr hr0 hd0 hdr
    have hrn : H r = none := ((Same.refl H).new htp).free hr0
    have s1 : Same H (upd (upd (upd H tp (.lst ((Txt.words text).map V.str))) dr (.own r)) r (.ins (He.ga K "Reader") dr [])) := (((Same.refl H).new htp).new hd0).mut hrn
    have nrt : r ≠ tp := (ne_of_none upd_same hr0).symm
    have ndt : dr ≠ tp := (ne_of_none upd_same hd0).symm
    refine ⟨r, dr, tp, q, h, k, l, rfl, upd_same, by rw [upd_ne nrt.symm, upd_ne ndt.symm, upd_same, hw], sqL_same hq s1, sqL_same hh s1, sqL_same hk s1, fun a H1 er ep s2 hR => ⟨rfl, ?_⟩⟩
    subst er ep
    have s3 : Same H H1 := Sx.drop1 s1 hrn s2
    have hr1 := hR.1
    walk_at "go"
    refine ⟨a, l, 0, rfl, hR, hTk, fun e he d H2 s4 hd => kE e (by unfold initC; rw [he]) d H2 (Sx.of (Sx.drop1 s3 hrn s4)) hd, fun ps m hps t H2 s4 hR2 ht0 hat => ?_⟩
    have s5 : Same H H2 := Sx.drop1 s3 hrn s4
    have hx2 := s5 _ _ hx
    have hr2 := hR2.1
    have hp2 := hR2.2.1
    have nxr : x ≠ a.r := ne_of_none hx hrn
    have nxp : x ≠ a.p := ne_of_none hx htp
    walk_at "go"
    skip
    walk_at "go"
    refine g_iteD (fun hlt => ?_) (fun hlt => ?_)
    · walk_at "go"
      intro d hd
      exact kE m (by unfold initC; rw [hps]; dsimp only; rw [if_pos (by simpa using hlt)]) d _ (((Sx.of s5).put (by simp)).new hd) upd_same
    · walk_at "go"
      refine g_join (ys := l.toks) (Or.inl (SqL.of (by walk_at "hp"))) ?_ ?_
      · rw [hw, show ((" " : Str)).length = 1 from rfl]
        omega
      walk_at "go"
      refine kQ ps (by unfold initC; rw [hps]; dsimp only; rw [if_neg (by simpa using hlt)]) _ (((Sx.of s5).put (by simp)).put (by simp)) ⟨dx, t, ?_, PartsAt.mv hat (((Mv.weak fun b _ hb => s3.free hb).trans (Mv.sx (r := x) ((Sx.refl H2).put (by simp)) hx2)).trans (Mv.sx (r := x) ((Sx.refl _).put (by simp)) upd_same))⟩
      rw [upd_same]
      repeat (first | rw [putF_nil] | rw [putF_ne (by decide +kernel)])
end
section
variable {P : Program} {w : World} {K : PySem.W.Frag} {mg : Str → Option Value} {base : Heap}
theorem ok_law_terms {f : Addr} {fd : FuncData} (F : FnP K "_law_terms" "_law_terms" s_law_terms f fd) (T : Txt K mg) (C__law_of : Cal P w K mg base 2 "_law_of" ["_law_bag", "_law_some"] (sp_law_of K)) (C__law_take : Cal P w K mg base 1 "_law_take" ["_law_bag", "_law_many"] (sp_law_take K))  : FnOk P w K mg base (L2.CX P w) 3 f fd ["_law_bag", "_law_names_here", "_law_many"] (sp_law_terms K) := by
  refine F.ok sc_law_terms (fun vs H Q E h => ?_) (fun cdv A outer s H vs Q E hr h => ?_)
  · obtain ⟨W, b, q, names, many, rfl, _⟩ := h
    rfl
  · have nd := sc_law_terms.nd
    have tk := takes_of (E := E) (X := (cxOf (L2.CX P w) P w K mg base ["_law_bag", "_law_names_here", "_law_many", "_law_terms_here", "_law_turn", "_law_thing"] "_law_terms" (defScope s_law_terms) f cdv A outer s H E)) rfl rfl rfl rfl
    have po : PassesOwn (model P w) (cxOf (L2.CX P w) P w K mg base ["_law_bag", "_law_names_here", "_law_many", "_law_terms_here", "_law_turn", "_law_thing"] "_law_terms" (defScope s_law_terms) f cdv A outer s H E).A (cxOf (L2.CX P w) P w K mg base ["_law_bag", "_law_names_here", "_law_many", "_law_terms_here", "_law_turn", "_law_thing"] "_law_terms" (defScope s_law_terms) f cdv A outer s H E).env (cxOf (L2.CX P w) P w K mg base ["_law_bag", "_law_names_here", "_law_many", "_law_terms_here", "_law_turn", "_law_thing"] "_law_terms" (defScope s_law_terms) f cdv A outer s H E).xe := passes_of (X := (cxOf (L2.CX P w) P w K mg base ["_law_bag", "_law_names_here", "_law_many", "_law_terms_here", "_law_turn", "_law_thing"] "_law_terms" (defScope s_law_terms) f cdv A outer s H E)) rfl
    obtain ⟨W, b, q, names, many, rfl, hb, hbW, hw, dq, hnl, hm0, hm5, k⟩ := h
    refine ⟨_, (pss_cons (q_set 3 nd (pe_lst pa_nil)) (pss_cons (ps_for po rfl (pi_range1 rfl T.n_range (pa_cons (pe_op op_dAdd pe_int (q_call C__law_take tk (hr.mono (by decide)) (pa_cons (pv 0) (pa_cons (pv 2) pa_nil)))) pa_nil)) (q_name 4 nd) (pss_cons (q_set 5 nd (q_call C__law_of tk (hr.mono (by decide)) (pa_cons (pv 0) (pa_cons (pe_op op_dAdd (pe_op op_dAdd (pe_lst (pa_cons pe_int (pa_cons pe_int (pa_cons pe_int (pa_cons pe_int (pa_cons (q_call C__law_take tk (hr.mono (by decide)) (pa_cons (pv 0) (pa_cons pe_int pa_nil))) pa_nil)))))) (pv 1)) (pv 1)) pa_nil)))) (pss_one (ps_expr (q_bm K PySem.F.plainAttrs_list PySem.F.slot_list_append PySem.F.type_list_append m_append (pv 3) (pa_cons (pe_tup (pa_cons (pe_ifExp (pt_cmpR (op_dEq K hr.units) (pv 4) pe_int (nomark _)) pe_str (q_call C__law_of tk (hr.mono (by decide)) (pa_cons (pv 0) (pa_cons (pe_lst (pa_cons pe_str (pa_cons pe_str pa_nil))) pa_nil)))) (pa_cons (pv 5) pa_nil))) pa_nil)))))) (pss_one (ps_ret (pv 3))))), ?_⟩
    refine g_start (σ' := some _ :: some _ :: some _ :: none :: none :: none :: []) rfl ?_
    walk_at "go"
    refine al fun p hp => ?_
    generalize hH1 : upd H p _ = H1
    obtain ⟨e1, bp⟩ := new_b (W := W) hH1 hp (by walk_at "wl")
    clear hH1
    have dq0 := dq.more hp
    walk_at "go"
    refine call_take (by walk_at "bag") (by omega) (by omega) fun d H2 d0 d1 e2 hb2 => ?_
    walk_at "go"
    have nbp : b ≠ p := fun z => hw b hbW (by rw [z]; exact hp)
    refine lp_it walk_range (fun i σ' H' => ∃ (ts : Terms) (u v : Option V), σ' = [some (.ref b), some (.ref q), some (.int (many : Nat)), some (.ref p), u, v] ∧ Ed [b] H H' ∧ Bag H' b ∧ Bld W H' p (ts.map termD) ∧ ts.length = i ∧ (∀ t ∈ ts, TmW names t.2 ∧ (t.1 = 1 ∨ t.1 = -1)) ∧ ∀ t ∈ ts.head?, t.1 = 1) ⟨[], _, _, rfl, by walk_at "ed", hb2, by walk_at "bld", rfl, fun t ht => absurd ht List.not_mem_nil, fun t ht => by cases ht⟩ (fun _ _ _ _ _ => trivial) ?_ ?_
    · rintro i x σ' H3 H4 hi ⟨ts, u, v, rfl, e3, hb3, bp3, htl, htk, hth⟩ ⟨rfl, rfl⟩
      have w3 : Wl (p :: W) H4 := by
        refine Wl.cons' bp3.alive (hw.ed e3)
      have hbp : b ∈ p :: W := List.mem_cons_of_mem _ hbW
      have dq3 : Df (p :: W) H4 (.ref q) (.list (names.map PyData.str)) := dq0.ed e3 (sub1 hbp)
      clear e1 e2 bp
      walk_at "go"
      refine call_take hb3 (by decide) (by decide) fun n H5 n0 n1 e5 hb5 => ?_
      have w5 := w3.ed e5
      walk_at "go"
      refine al fun l1 hl1 => ?_
      generalize hH6 : upd H5 l1 _ = H6
      obtain ⟨e6, dl1⟩ := new_l (W := (p :: W)) hH6 hl1 (by walk_at "dfs") (by walk_at "wl")
      clear hH6
      walk_at "go"
      refine g_addd dl1 (by walk_at "df") (w5.ed e6) (by rw [List.length_map, sizeLine_eq]; simp only [List.length_cons, List.length_nil]; omega) fun l2 H7 hl2 e7 dl2 => ?_
      walk_at "go"
      refine g_addd dl2 (by walk_at "df") ((w5.ed e6).ed e7) (by rw [List.length_append, List.length_map, sizeLine_eq]; simp only [List.length_cons, List.length_nil]; omega) fun l3 H8 hl3 e8 dl3 => ?_
      walk_at "go"
      refine call_of (by walk_at "bag") dl3 hbp (by simp) (by simp only [List.length_append, List.length_map, List.length_cons, List.length_nil]; omega) fun v1 d1 H9 hd e9 hb9 dv => ?_
      obtain ⟨tm, rfl, htm⟩ : ∃ tm, d1 = tmD tm ∧ TmW names tm := by
        simp only [List.mem_append, List.mem_cons, List.not_mem_nil, or_false, List.mem_map] at hd
        rcases hd with ((rfl | rfl | rfl | rfl | rfl) | ⟨s, hs, rfl⟩) | ⟨s, hs, rfl⟩
        · exact ⟨.num 0, rfl, by decide, by decide⟩
        · exact ⟨.num 1, rfl, by decide, by decide⟩
        · exact ⟨.num 2, rfl, by decide, by decide⟩
        · exact ⟨.num 3, rfl, by decide, by decide⟩
        · exact ⟨.num n, rfl, n0, n1⟩
        · exact ⟨.nam s, rfl, hs⟩
        · exact ⟨.nam s, rfl, hs⟩
      have w9 : Wl (p :: W) H9 := by walk_at "wl"
      have bp9 : Bld W H9 p (ts.map termD) := by walk_at "bld"
      have e39 : Ed [b] H H9 := by walk_at "ed"
      clear e5 e6 e7 e8 e9 dl1 dl2 dl3 e3
      walk_at "go"
      have hi6 : i < 6 := by omega
      refine g_iteD (fun hz => ?_) (fun hz => ?_)
      · walk_at "go"
        refine al fun t ht => ?_
        generalize hH10 : upd H9 t _ = H10
        obtain ⟨e10, dt⟩ := new_t (W := (p :: W)) hH10 ht (by walk_at "dfs") (by walk_at "wl")
        clear hH10
        walk_at "go"
        refine g_bap (by walk_at "bld") dt (by rw [List.length_map, sizeLine_eq]; omega) fun HY eY bY => ?_
        refine ⟨ts ++ [(1, tm)], _, _, rfl, by walk_at "ed", by walk_at "bag", by rw [List.map_append]; exact bY, by simp [htl], fun t ht => ?_, fun t ht => ?_⟩
        · rcases List.mem_append.mp ht with ht | ht
          · exact htk t ht
          · rw [List.mem_singleton.mp ht]; exact ⟨htm, .inl rfl⟩
        · cases ts with
          | nil => cases ht; rfl
          | cons t0 r => exact hth t ht
      · walk_at "go"
        refine al fun ls hls => ?_
        generalize hH10 : upd H9 ls _ = H10
        obtain ⟨e10, dls⟩ := new_l (W := (p :: W)) hH10 hls (by walk_at "dfs") (by walk_at "wl")
        clear hH10
        walk_at "go"
        refine call_ofC (by walk_at "bag") dls hbp fun v2 d2 H11 hd2 e11 hb11 dv2 => ?_
        obtain ⟨g, rfl, hg⟩ : ∃ g : Int, d2 = .str (opT g) ∧ (g = 1 ∨ g = -1) := by
          simp only [List.mem_cons, List.not_mem_nil, or_false] at hd2
          rcases hd2 with rfl | rfl
          · exact ⟨1, rfl, .inl rfl⟩
          · exact ⟨-1, rfl, .inr rfl⟩
        obtain rfl := dv2.isStr
        walk_at "go"
        refine al fun t ht => ?_
        generalize hH12 : upd H11 t _ = H12
        obtain ⟨e12, dt⟩ := new_t (W := (p :: W)) hH12 ht (by walk_at "dfs") (by walk_at "wl")
        clear hH12
        walk_at "go"
        refine g_bap (by walk_at "bld") dt (by rw [List.length_map, sizeLine_eq]; omega) fun HY eY bY => ?_
        refine ⟨ts ++ [(g, tm)], _, _, rfl, by walk_at "ed", by walk_at "bag", by rw [List.map_append]; exact bY, by simp [htl], fun t ht => ?_, fun t ht => ?_⟩
        · rcases List.mem_append.mp ht with ht | ht
          · exact htk t ht
          · rw [List.mem_singleton.mp ht]; exact ⟨htm, hg⟩
        · cases ts with
          | nil => exfalso; simp at htl; omega
          | cons t0 r => exact hth t ht
    · rintro σ' H3 ⟨ts, u, v, rfl, e3, hb3, bp3, htl, htk, hth⟩
      walk_at "go"
      refine k p ts H3 hp e3 hb3 bp3.done ⟨fun z => ?_, by omega, htk, hth⟩
      rw [z] at htl
      simp at htl
      omega
end
section
variable {P : Program} {w : World} {K : PySem.W.Frag} {mg : Str → Option Value} {base : Heap}
theorem ok_law_sum_text {f : Addr} {fd : FuncData} (F : FnP K "_law_sum_text" "_law_sum_text" s_law_sum_text f fd) (T : Txt K mg)   : FnOk P w K mg base (L2.CX P w) 1 f fd ["_law_terms_here"] (sp_law_sum_text K) := by
  refine F.ok sc_law_sum_text (fun vs H Q E h => ?_) (fun cdv A outer s H vs Q E hr h => ?_)
  · obtain ⟨W, p, ts, rfl, _⟩ := h
    rfl
  · have nd := sc_law_sum_text.nd
    have tk := takes_of (E := E) (X := (cxOf (L2.CX P w) P w K mg base ["_law_terms_here", "_law_k", "_law_sign", "_law_thing"] "_law_sum_text" (defScope s_law_sum_text) f cdv A outer s H E)) rfl rfl rfl rfl
    have po : PassesOwn (model P w) (cxOf (L2.CX P w) P w K mg base ["_law_terms_here", "_law_k", "_law_sign", "_law_thing"] "_law_sum_text" (defScope s_law_sum_text) f cdv A outer s H E).A (cxOf (L2.CX P w) P w K mg base ["_law_terms_here", "_law_k", "_law_sign", "_law_thing"] "_law_sum_text" (defScope s_law_sum_text) f cdv A outer s H E).env (cxOf (L2.CX P w) P w K mg base ["_law_terms_here", "_law_k", "_law_sign", "_law_thing"] "_law_sum_text" (defScope s_law_sum_text) f cdv A outer s H E).xe := passes_of (X := (cxOf (L2.CX P w) P w K mg base ["_law_terms_here", "_law_k", "_law_sign", "_law_thing"] "_law_sum_text" (defScope s_law_sum_text) f cdv A outer s H E)) rfl
    obtain ⟨W, p, ts, rfl, dp, hw, hl, hts, k⟩ := h
    refine ⟨_, (pss_one (ps_ret (q_bm K PySem.F.plainAttrs_str PySem.F.slot_str_join PySem.F.type_str_join (m_join K) pe_str (pa_cons (pe_lc (own := [("_law_k", 1), ("_law_sign", 2), ("_law_thing", 3)]) (tt := tYes) rfl nd (q_enum K T.n_enumerate (pa_cons (pv 0) pa_nil)) (blkOk_by (own := [("_law_k", 1), ("_law_sign", 2), ("_law_thing", 3)]) (N := ["_law_terms_here", "_law_k", "_law_sign", "_law_thing"]) (sc := defScope s_law_sum_text) (by decide +kernel)) (fun _ _ _ _ _ => (q_gtup K 2 (pgs_cons (q_name 1 nd) (pgs_cons (q_gtup K 2 (pgs_cons (q_name 2 nd) (pgs_cons (q_name 3 nd) pgs_nil))) pgs_nil)))) (fun _ _ _ _ _ => pts_nil) (fun _ _ _ _ _ => (pe_op op_dAdd (pe_ifExp (pt_cmpR (op_dEq K hr.units) (pv 1) pe_int (nomark _)) pe_str (pe_op op_dAdd (pv 2) pe_str)) (pe_callTy cl_str (by rfl) T.n_str bt_str (pa_cons (pv 3) pa_nil))))) pa_nil)))), ?_⟩
    refine g_start (σ' := some _ :: none :: none :: none :: []) rfl ?_
    walk_at "go"
    intro D hD
    refine lc_en (by walk_at "wipe") (U := []) (W := W) dp (by rw [List.length_map, sizeLine_eq]; omega) hD hw no0 (fun i acc => acc = ((ts.take i).mapIdx pcT).map PyData.str) (fun _ => True) (fun _ _ _ _ => trivial) (fun _ _ _ _ => trivial) trivial rfl ?_ ?_
    · rintro i x t d acc H1 R N hd hacc _ e1 w1 ht hx yes no
      obtain ⟨τ, hτ, rfl⟩ := at_map hd
      obtain ⟨pa, rfl⟩ := Df.isRefT hx
      have hs := hts τ (List.mem_of_getElem? hτ)
      have hsl := tok_len hs
      have hol := op_len (f := τ.1)
      walk_at "go"
      refine g_gtupd hx rfl fun xs hxs => ?_
      obtain ⟨v, rfl, hv⟩ := cells2 hxs
      walk_at "go"
      refine ⟨rfl, ?_⟩
      walk_at "go"
      refine g_iteD (fun hz => ?_) (fun hz => ?_)
      · walk_at "go"
        refine g_strT hv hs ?_
        refine g_add_s (by rw [sizeLine_eq, show (("" : Str)).length = 0 from rfl]; omega) ?_
        refine yes _ _ _ Ed.refl (.str _) trivial ?_
        rw [hacc, mapIdx_take hτ, List.map_append]
        obtain rfl : i = 0 := by omega
        rfl
      · walk_at "go"
        refine g_add_s (by rw [sizeLine_eq, hol]; decide) ?_
        walk_at "go"
        refine g_strT hv hs ?_
        refine g_add_s (by rw [sizeLine_eq, Str.length_append, hol, show ((" " : Str)).length = 1 from rfl]; omega) ?_
        refine yes _ _ _ Ed.refl (.str _) trivial ?_
        rw [hacc, mapIdx_take hτ, List.map_append]
        have e : pcT i τ = opT τ.1 ++ " " ++ τ.2.tok := by unfold pcT; rw [if_neg (by omega)]
        rw [e]
        rfl
    · rintro acc H1 hacc _ e1 dD _
      rw [take_all rfl] at hacc
      subst hacc
      walk_at "go"
      have hll : ∀ t ∈ ts.mapIdx pcT, t.length ≤ 10 := fun t ht => by
        obtain ⟨i, hi, rfl⟩ := List.mem_mapIdx.mp ht
        have h1 := tok_len (hts _ (List.getElem_mem hi))
        have h2 := op_len (f := (ts[i]).1)
        unfold pcT
        rw [Str.length_append]
        split
        · rw [show (("" : Str)).length = 0 from rfl]; omega
        · rw [Str.length_append, h2, show ((" " : Str)).length = 1 from rfl]; omega
      have h1 := sum_len_le hll
      rw [List.length_mapIdx] at h1
      refine g_joind dD (by rw [List.length_mapIdx, show ((" " : Str)).length = 1 from rfl]; omega) ?_
      rw [join_txt, join_sum]
      exact k H1 e1
end
section
variable {P : Program} {w : World} {K : PySem.W.Frag} {mg : Str → Option Value} {base : Heap}
theorem ok_law_atom {f : Addr} {fd : FuncData} (F : FnP K "_law_atom" "_law_atom" s_law_atom f fd) (T : Txt K mg) (C__law_of : Cal P w K mg base 2 "_law_of" ["_law_bag", "_law_some"] (sp_law_of K)) (C__law_terms : Cal P w K mg base 3 "_law_terms" ["_law_bag", "_law_names_here", "_law_many"] (sp_law_terms K))  : FnOk P w K mg base (L2.CX P w) 4 f fd ["_law_bag", "_law_names_here", "_law_handles", "_law_requests"] (sp_law_atom K) := by
  refine F.ok sc_law_atom (fun vs H Q E h => ?_) (fun cdv A outer s H vs Q E hr h => ?_)
  · obtain ⟨W, b, q, h, r, names, hs, rs, rfl, _⟩ := h
    rfl
  · have nd := sc_law_atom.nd
    have tk := takes_of (E := E) (X := (cxOf (L2.CX P w) P w K mg base ["_law_bag", "_law_names_here", "_law_handles", "_law_requests", "_law_word", "_law_nots", "_law_sign"] "_law_atom" (defScope s_law_atom) f cdv A outer s H E)) rfl rfl rfl rfl
    have po : PassesOwn (model P w) (cxOf (L2.CX P w) P w K mg base ["_law_bag", "_law_names_here", "_law_handles", "_law_requests", "_law_word", "_law_nots", "_law_sign"] "_law_atom" (defScope s_law_atom) f cdv A outer s H E).A (cxOf (L2.CX P w) P w K mg base ["_law_bag", "_law_names_here", "_law_handles", "_law_requests", "_law_word", "_law_nots", "_law_sign"] "_law_atom" (defScope s_law_atom) f cdv A outer s H E).env (cxOf (L2.CX P w) P w K mg base ["_law_bag", "_law_names_here", "_law_handles", "_law_requests", "_law_word", "_law_nots", "_law_sign"] "_law_atom" (defScope s_law_atom) f cdv A outer s H E).xe := passes_of (X := (cxOf (L2.CX P w) P w K mg base ["_law_bag", "_law_names_here", "_law_handles", "_law_requests", "_law_word", "_law_nots", "_law_sign"] "_law_atom" (defScope s_law_atom) f cdv A outer s H E)) rfl
    obtain ⟨W, b, q, h, r, names, hs, rs, rfl, hb, hbW, hw, dq, dh, dr, l1, l2, l3, sk1, sk2, k⟩ := h
    refine ⟨_, (pss_cons (q_set 4 nd (q_call C__law_of tk (hr.mono (by decide)) (pa_cons (pv 0) (pa_cons (pe_lst (pa_cons pe_str (pa_cons pe_str (pa_cons pe_str (pa_cons pe_str (pa_cons pe_str (pa_cons pe_str (pa_cons pe_str (pa_cons pe_str (pa_cons pe_str pa_nil)))))))))) pa_nil)))) (pss_cons (q_set 5 nd (q_call C__law_of tk (hr.mono (by decide)) (pa_cons (pv 0) (pa_cons (pe_lst (pa_cons pe_int (pa_cons pe_int (pa_cons pe_int (pa_cons pe_int (pa_cons pe_int pa_nil)))))) pa_nil)))) (pss_cut (ps_if (PW.pt (pw_and (pt_cmpR (op_dIn K) (pv 4) (pe_lst (pa_cons pe_str (pa_cons pe_str pa_nil))) (by rfl)) (pw_and1 (pt_cmpR (op_dNe K hr.units) (pv 2) (pe_lst pa_nil) (nomark _))))) (pss_one (ps_ret (pe_tup (pa_cons (pv 5) (pa_cons (pv 4) (pa_cons (q_call C__law_of tk (hr.mono (by decide)) (pa_cons (pv 0) (pa_cons (pv 2) pa_nil))) (pa_cons (pe_lst pa_nil) pa_nil))))))) pss_nil) (pss_cut (ps_if (PW.pt (pw_and (pt_cmpR (op_dEq K hr.units) (pv 4) pe_str (nomark _)) (pw_and1 (pt_cmpR (op_dNe K hr.units) (pv 3) (pe_lst pa_nil) (nomark _))))) (pss_one (ps_ret (pe_tup (pa_cons (pv 5) (pa_cons (pv 4) (pa_cons (q_call C__law_of tk (hr.mono (by decide)) (pa_cons (pv 0) (pa_cons (pv 3) pa_nil))) (pa_cons (pe_lst pa_nil) pa_nil))))))) pss_nil) (pss_cons (q_set 6 nd (pe_ifExp (pt_cmpR (op_dNotIn K) (pv 4) (pe_lst (pa_cons pe_str (pa_cons pe_str (pa_cons pe_str pa_nil)))) (by rfl)) (pv 4) pe_str)) (pss_one (ps_ret (pe_tup (pa_cons (pv 5) (pa_cons (pv 6) (pa_cons (q_call C__law_terms tk (hr.mono (by decide)) (pa_cons (pv 0) (pa_cons (pv 1) (pa_cons pe_int pa_nil)))) (pa_cons (q_call C__law_terms tk (hr.mono (by decide)) (pa_cons (pv 0) (pa_cons (pv 1) (pa_cons pe_int pa_nil)))) pa_nil)))))))))))), ?_⟩
    refine g_start (σ' := some _ :: some _ :: some _ :: some _ :: none :: none :: none :: []) rfl ?_
    walk_at "go"
    refine al fun a1 ha1 => ?_
    generalize hH1 : upd H a1 _ = H1
    obtain ⟨e1, da1⟩ := new_l (W := W) hH1 ha1 (by walk_at "dfs") (by walk_at "wl")
    clear hH1
    walk_at "go"
    refine call_ofC (by walk_at "bag") da1 hbW fun v d H2 hd e2 hb2 dv => ?_
    obtain ⟨w, hw9, rfl⟩ : ∃ w, w ∈ words9 ∧ d = .str w := by
      obtain ⟨w, h1, h2⟩ := List.mem_map.mp (show d ∈ words9.map PyData.str from hd)
      exact ⟨w, h1, h2.symm⟩
    obtain rfl := dv.isStr
    walk_at "go"
    refine al fun a2 ha2 => ?_
    generalize hH3 : upd H2 a2 _ = H3
    obtain ⟨e3, da2⟩ := new_l (W := W) hH3 ha2 (by walk_at "dfs") (by walk_at "wl")
    clear hH3
    walk_at "go"
    refine call_ofC (by walk_at "bag") da2 hbW fun v d H4 hd e4 hb4 dv => ?_
    obtain ⟨n, hn, rfl⟩ : ∃ n : Nat, n ≤ 2 ∧ d = .int (n : Nat) := by
      simp only [List.mem_cons, List.not_mem_nil, or_false] at hd
      rcases hd with rfl | rfl | rfl | rfl | rfl
      · exact ⟨0, by decide, rfl⟩
      · exact ⟨0, by decide, rfl⟩
      · exact ⟨0, by decide, rfl⟩
      · exact ⟨1, by decide, rfl⟩
      · exact ⟨2, by decide, rfl⟩
    obtain rfl := dv.isInt
    have e04 : Ed [b] H H4 := by walk_at "ed"
    have w4 := hw.ed e04
    clear e1 e2 e3 e4 da1 da2
    walk_at "go"
    refine g_cut (fun σ' H' => σ' = [some (.ref b), some (.ref q), some (.ref h), some (.ref r), some (.str w), some (.int (n : Nat)), none] ∧ Ed [b] H H' ∧ Bag H' b ∧ ¬ (w ∈ (["none", "live"] : List Str) ∧ hs ≠ [])) (fun R hR => ?_) ?_
    · walk_at "go"
      refine al fun a3 ha3 => ?_
      generalize hH5 : upd H4 a3 _ = H5
      obtain ⟨e5, da3⟩ := new_l (W := W) hH5 ha3 (by walk_at "dfs") (by walk_at "wl")
      clear hH5
      have da3 : Df W H5 (.ref a3) (.list ((["none", "live"] : List Str).map PyData.str)) := da3
      walk_at "go"
      refine g_iteD (fun hin => ?_) (fun hin => ?_)
      · walk_at "go"
        refine al fun a4 ha4 => ?_
        generalize hH6 : upd H5 a4 _ = H6
        obtain ⟨e6, da4⟩ := new_l (W := W) hH6 ha4 (by walk_at "dfs") (by walk_at "wl")
        clear hH6
        have dh6 : Df W H6 (.ref h) (.list (hs.map PyData.str)) := by walk_at "df"
        refine g_ned dh6 da4 (Sh.strs sk1) Sh.nil ?_
        rw [eqv_nil, strs_nil]
        walk_at "go"
        refine g_iteN (fun hne => ?_) (fun hne => ?_)
        · walk_at "go"
          have hl : 0 < hs.length := by cases hs with | nil => exact absurd rfl hne | cons _ _ => simp
          refine call_of (by walk_at "bag") dh6 hbW (by rw [List.length_map]; exact hl) (by rw [List.length_map]; omega) fun v d H7 hd e7 hb7 dv => ?_
          obtain ⟨x, hx, rfl⟩ := List.mem_map.mp hd
          obtain rfl := dv.isStr
          walk_at "go"
          refine al fun a5 ha5 => ?_
          generalize hH8 : upd H7 a5 _ = H8
          obtain ⟨e8, da5⟩ := new_l (W := W) hH8 ha5 (by walk_at "dfs") (by walk_at "wl")
          clear hH8
          walk_at "go"
          refine al fun t ht => ?_
          generalize hH9 : upd H8 t _ = H9
          obtain ⟨e9, dt⟩ := new_t (W := W) hH9 ht (by walk_at "dfs") (by walk_at "wl")
          clear hH9
          exact k _ (n, .word (decide (n % 2 = 0)) w x) H9 (by walk_at "ed") (by walk_at "bag") dt ⟨hn, rfl, .inl ⟨hin, hx⟩⟩
        · walk_at "go"
          exact hR _ _ ⟨rfl, by walk_at "ed", by walk_at "bag", fun z => z.2 hne⟩
      · walk_at "go"
        exact hR _ _ ⟨rfl, by walk_at "ed", by walk_at "bag", fun z => hin z.1⟩
    rintro σ' H5 ⟨rfl, e5, hb5, hno⟩
    have w5 := hw.ed e5
    clear e04 w4 hb4 hb2
    walk_at "go"
    refine g_cut (fun σ' H' => σ' = [some (.ref b), some (.ref q), some (.ref h), some (.ref r), some (.str w), some (.int (n : Nat)), none] ∧ Ed [b] H H' ∧ Bag H' b) (fun R hR => ?_) ?_
    · walk_at "go"
      refine g_iteD (fun hin => ?_) (fun hin => ?_)
      · walk_at "go"
        refine al fun a4 ha4 => ?_
        generalize hH6 : upd H5 a4 _ = H6
        obtain ⟨e6, da4⟩ := new_l (W := W) hH6 ha4 (by walk_at "dfs") (by walk_at "wl")
        clear hH6
        have dr6 : Df W H6 (.ref r) (.list (rs.map PyData.str)) := by walk_at "df"
        refine g_ned dr6 da4 (Sh.strs sk2) Sh.nil ?_
        rw [eqv_nil, strs_nil]
        walk_at "go"
        refine g_iteN (fun hne => ?_) (fun hne => ?_)
        · walk_at "go"
          have hl : 0 < rs.length := by cases rs with | nil => exact absurd rfl hne | cons _ _ => simp
          refine call_of (by walk_at "bag") dr6 hbW (by rw [List.length_map]; exact hl) (by rw [List.length_map]; omega) fun v d H7 hd e7 hb7 dv => ?_
          obtain ⟨x, hx, rfl⟩ := List.mem_map.mp hd
          obtain rfl := dv.isStr
          walk_at "go"
          refine al fun a5 ha5 => ?_
          generalize hH8 : upd H7 a5 _ = H8
          obtain ⟨e8, da5⟩ := new_l (W := W) hH8 ha5 (by walk_at "dfs") (by walk_at "wl")
          clear hH8
          walk_at "go"
          refine al fun t ht => ?_
          generalize hH9 : upd H8 t _ = H9
          obtain ⟨e9, dt⟩ := new_t (W := W) hH9 ht (by walk_at "dfs") (by walk_at "wl")
          clear hH9
          exact k _ (n, .word (decide (n % 2 = 0)) w x) H9 (by walk_at "ed") (by walk_at "bag") dt ⟨hn, rfl, .inr ⟨hin, hx⟩⟩
        · walk_at "go"
          exact hR _ _ ⟨rfl, by walk_at "ed", by walk_at "bag"⟩
      · walk_at "go"
        exact hR _ _ ⟨rfl, by walk_at "ed", by walk_at "bag"⟩
    rintro σ' H6 ⟨rfl, e6, hb6⟩
    have w6 := hw.ed e6
    clear e5 w5 hb5
    walk_at "go"
    refine al fun a6 ha6 => ?_
    generalize hH7 : upd H6 a6 _ = H7
    obtain ⟨e7, da6⟩ := new_l (W := W) hH7 ha6 (by walk_at "dfs") (by walk_at "wl")
    clear hH7
    have da6 : Df W H7 (.ref a6) (.list ((["none", "live", "open"] : List Str).map PyData.str)) := da6
    walk_at "go"
    have fin : ∀ (s : Str) (H7 : Hp) (R : VK), s ∈ signs6 → Ed [b] H H7 → Bag H7 b → (∀ v a H', Ed [b] H H' → Bag H' b → Df W H' v (naD a) → NaW names hs rs a → R v H') → tTup (tCons (tVar 5) (tCons (tVar 6) (tCons (tCallS (sp_law_terms K) (WE fun cls d x H => E cls d H) (tCons (tVar 0) (tCons (tVar 1) (tCons (tC (V.int 2)) tNil)))) (tCons (tCallS (sp_law_terms K) (WE fun cls d x H => E cls d H) (tCons (tVar 0) (tCons (tVar 1) (tCons (tC (V.int 2)) tNil)))) tNil)))) [some (.ref b), some (.ref q), some (.ref h), some (.ref r), some (.str w), some (.int (n : Nat)), some (.str s)] H7 R := by
      intro s H7 R hs6 e7 hb7 kR
      have w7 := hw.ed e7
      have dq7 := dq.ed e7 (sub1 hbW)
      clear e6 hb6 w6
      walk_at "go"
      refine call_terms (many := 2) rfl hb7 hbW w7 dq7 l1 (by decide) (by decide) fun p1 t1 H8 hp1 e8 hb8 d1 tw1 => ?_
      walk_at "go"
      refine call_terms (many := 2) rfl hb8 hbW (w7.ed e8) (dq7.ed e8 (sub1 hbW)) l1 (by decide) (by decide) fun p2 t2 H9 hp2 e9 hb9 d2 tw2 => ?_
      walk_at "go"
      refine al fun t ht => ?_
      generalize hH10 : upd H9 t _ = H10
      obtain ⟨e10, dt⟩ := new_t (W := W) hH10 ht (by walk_at "dfs") (by walk_at "wl")
      clear hH10
      exact kR _ (n, .cmp (decide (n % 2 = 0)) s t1 t2) H10 (by walk_at "ed") (by walk_at "bag") dt ⟨hn, rfl, hs6, tw1, tw2⟩
    refine g_iteN (fun hz => ?_) (fun hz => ?_)
    · walk_at "go1"
      walk_at "go1"
      walk_at "go1"
      walk_at "go1"
      exact fin w H7 Q (word9s w hw9 hz) (by clear fin; walk_at "ed") (by walk_at "bag") k
    · walk_at "go1"
      walk_at "go1"
      walk_at "go1"
      walk_at "go1"
      exact fin "=" H7 Q (by decide +kernel) (by clear fin; walk_at "ed") (by walk_at "bag") k
end
section
variable {P : Program} {w : World} {K : PySem.W.Frag} {mg : Str → Option Value} {base : Heap}
theorem ok_law_condition {f : Addr} {fd : FuncData} (F : FnP K "_law_condition" "_law_condition" s_law_condition f fd) (T : Txt K mg) (C__law_atom : Cal P w K mg base 4 "_law_atom" ["_law_bag", "_law_names_here", "_law_handles", "_law_requests"] (sp_law_atom K)) (C__law_take : Cal P w K mg base 1 "_law_take" ["_law_bag", "_law_many"] (sp_law_take K))  : FnOk P w K mg base (L2.CX P w) 5 f fd ["_law_bag", "_law_names_here", "_law_handles", "_law_requests", "_law_most"] (sp_law_condition K) := by
  refine F.ok sc_law_condition (fun vs H Q E h => ?_) (fun cdv A outer s H vs Q E hr h => ?_)
  · obtain ⟨W, b, q, h, r, names, hs, rs, most, rfl, _⟩ := h
    rfl
  · have nd := sc_law_condition.nd
    have tk := takes_of (E := E) (X := (cxOf (L2.CX P w) P w K mg base ["_law_bag", "_law_names_here", "_law_handles", "_law_requests", "_law_most", "_law_parts", "_law_turn", "_law_each"] "_law_condition" (defScope s_law_condition) f cdv A outer s H E)) rfl rfl rfl rfl
    have po : PassesOwn (model P w) (cxOf (L2.CX P w) P w K mg base ["_law_bag", "_law_names_here", "_law_handles", "_law_requests", "_law_most", "_law_parts", "_law_turn", "_law_each"] "_law_condition" (defScope s_law_condition) f cdv A outer s H E).A (cxOf (L2.CX P w) P w K mg base ["_law_bag", "_law_names_here", "_law_handles", "_law_requests", "_law_most", "_law_parts", "_law_turn", "_law_each"] "_law_condition" (defScope s_law_condition) f cdv A outer s H E).env (cxOf (L2.CX P w) P w K mg base ["_law_bag", "_law_names_here", "_law_handles", "_law_requests", "_law_most", "_law_parts", "_law_turn", "_law_each"] "_law_condition" (defScope s_law_condition) f cdv A outer s H E).xe := passes_of (X := (cxOf (L2.CX P w) P w K mg base ["_law_bag", "_law_names_here", "_law_handles", "_law_requests", "_law_most", "_law_parts", "_law_turn", "_law_each"] "_law_condition" (defScope s_law_condition) f cdv A outer s H E)) rfl
    obtain ⟨W, b, q, h, r, names, hs, rs, most, rfl, hb, hbW, hw, dq, dh, dr, l1, l2, l3, sk1, sk2, m0, m10, k⟩ := h
    refine ⟨_, (pss_cons (q_set 5 nd (pe_lst pa_nil)) (pss_cons (ps_for po rfl (pi_range1 rfl T.n_range (pa_cons (pe_op op_dAdd pe_int (q_call C__law_take tk (hr.mono (by decide)) (pa_cons (pv 0) (pa_cons (pv 4) pa_nil)))) pa_nil)) (q_name 6 nd) (pss_one (ps_expr (q_bm K PySem.F.plainAttrs_list PySem.F.slot_list_append PySem.F.type_list_append m_append (pv 5) (pa_cons (pe_lc (own := [("_law_each", 7)]) (tt := tYes) rfl nd (pi_range1 rfl T.n_range (pa_cons (pe_op op_dAdd pe_int (q_call C__law_take tk (hr.mono (by decide)) (pa_cons (pv 0) (pa_cons (pv 4) pa_nil)))) pa_nil)) (blkOk_by (own := [("_law_each", 7)]) (N := ["_law_bag", "_law_names_here", "_law_handles", "_law_requests", "_law_most", "_law_parts", "_law_turn", "_law_each"]) (sc := defScope s_law_condition) (by decide +kernel)) (fun _ _ _ _ _ => (q_name 7 nd)) (fun _ _ _ _ _ => pts_nil) (fun _ _ _ _ _ => (q_call C__law_atom takes0 (hr.mono (by decide)) (pa_cons (pv 0) (pa_cons (pv 1) (pa_cons (pv 2) (pa_cons (pv 3) pa_nil))))))) pa_nil))))) (pss_one (ps_ret (pv 5))))), ?_⟩
    refine g_start (σ' := some _ :: some _ :: some _ :: some _ :: some _ :: none :: none :: none :: []) rfl ?_
    walk_at "go"
    refine al fun p hp => ?_
    generalize hH1 : upd H p _ = H1
    obtain ⟨e1, bp⟩ := new_b (W := W) hH1 hp (by walk_at "wl")
    clear hH1
    have dq0 := dq.more hp
    have dh0 := dh.more hp
    have dr0 := dr.more hp
    walk_at "go"
    refine call_take (by walk_at "bag") (by omega) (by omega) fun d H2 d0 d1 e2 hb2 => ?_
    walk_at "go"
    refine lp_it walk_range (fun i σ' H' => ∃ (ps : List (List (Nat × Atom))) (u v : Option V), σ' = [some (.ref b), some (.ref q), some (.ref h), some (.ref r), some (.int (most : Nat)), some (.ref p), u, v] ∧ Ed [b] H H' ∧ Bag H' b ∧ Bld W H' p (ps.map partD) ∧ ps.length = i ∧ ∀ x ∈ ps, PtW names hs rs most x) ⟨[], _, _, rfl, by walk_at "ed", hb2, by walk_at "bld", rfl, fun t ht => absurd ht List.not_mem_nil⟩ (fun _ _ _ _ _ => trivial) ?_ ?_
    · rintro i x σ' H3 H4 hi ⟨ps, u, v, rfl, e3, hb3, bp3, hpl, hpo⟩ ⟨rfl, rfl⟩
      have w3 : Wl (p :: W) H4 := Wl.cons' bp3.alive (hw.ed e3)
      have hbp : b ∈ p :: W := List.mem_cons_of_mem _ hbW
      clear e1 e2 bp
      walk_at "go"
      refine call_take hb3 (by omega) (by omega) fun m H5 n0 n1 e5 hb5 => ?_
      have w5 := w3.ed e5
      have e35 : Ed [b] H H5 := by walk_at "ed"
      have dq5 := dq0.ed e35 (sub1 hbp)
      have dh5 := dh0.ed e35 (sub1 hbp)
      have dr5 := dr0.ed e35 (sub1 hbp)
      have bp5 := bp3.ed e5 (sub1 hbW)
      clear e5 e3
      walk_at "go"
      intro D hD
      have w5D : ∀ H', Ed [b] H5 H' → Wl (p :: W) H' := fun H' e => w5.ed e
      have dq6 := dq5.more hD
      have dh6 := dh5.more hD
      have dr6 := dr5.more hD
      have hbD : b ∈ D :: p :: W := List.mem_cons_of_mem _ hbp
      refine lc_rg (by walk_at "wipe") (U := [b]) (W := p :: W) (by rw [sizeLine_eq]; omega) hD w5 (sub1 hbp) (fun j acc => ∃ pt : List (Nat × Atom), acc = pt.map naD ∧ pt.length = j ∧ ∀ a ∈ pt, NaW names hs rs a) (fun H' => Bag H' b) (bagJ w5 hD hbp) hb5 ⟨[], rfl, rfl, fun p hp => absurd hp List.not_mem_nil⟩ ?_ ?_
      · rintro j acc H6 R N hj ⟨pt, rfl, hpj, hpx⟩ hb6 e6 w6 yes no
        walk_at "go"
        refine ⟨rfl, ?_⟩
        walk_at "go"
        refine ⟨D :: p :: W, b, q, h, r, names, hs, rs, rfl, hb6, hbD, w6, dq6.ed e6 (sub1 hbD), dh6.ed e6 (sub1 hbD), dr6.ed e6 (sub1 hbD), l1, l2, l3, sk1, sk2, fun v a H7 e7 hb7 dv na => ?_⟩
        refine yes _ _ _ e7 dv hb7 ⟨pt ++ [a], by rw [List.map_append]; rfl, by simp [hpj], fun y hy => ?_⟩
        rcases List.mem_append.mp hy with hy | hy
        · exact hpx y hy
        · rw [List.mem_singleton.mp hy]; exact na
      · rintro acc H6 ⟨pt, rfl, hpj, hpx⟩ hb6 e6 dD _
        walk_at "go"
        refine g_bap (bp5.ed e6 (sub1 hbW)) dD (by rw [List.length_map, sizeLine_eq]; omega) fun H7 e7 b7 => ?_
        refine ⟨ps ++ [pt], _, _, rfl, by walk_at "ed", by walk_at "bag", by rw [List.map_append]; exact b7, by simp [hpl], fun y hy => ?_⟩
        rcases List.mem_append.mp hy with hy | hy
        · exact hpo y hy
        · rw [List.mem_singleton.mp hy]
          exact ⟨fun z => by rw [z] at hpj; simp at hpj; omega, by omega, hpx⟩
    · rintro σ' H3 ⟨ps, u, v, rfl, e3, hb3, bp3, hpl, hpo⟩
      walk_at "go"
      refine k p ps H3 hp e3 hb3 bp3.done ⟨fun z => ?_, by omega, hpo⟩
      rw [z] at hpl
      simp at hpl
      omega
end
section
variable {P : Program} {w : World} {K : PySem.W.Frag} {mg : Str → Option Value} {base : Heap}
theorem ok_law_atom_text {f : Addr} {fd : FuncData} (F : FnP K "_law_atom_text" "_law_atom_text" s_law_atom_text f fd) (T : Txt K mg) (C__law_sum_text : Cal P w K mg base 1 "_law_sum_text" ["_law_terms_here"] (sp_law_sum_text K))  : FnOk P w K mg base (L2.CX P w) 2 f fd ["_law_atom_here"] (sp_law_atom_text K) := by
  refine F.ok sc_law_atom_text (fun vs H Q E h => ?_) (fun cdv A outer s H vs Q E hr h => ?_)
  · obtain ⟨W, v, a, rfl, _⟩ := h
    rfl
  · have nd := sc_law_atom_text.nd
    have tk := takes_of (E := E) (X := (cxOf (L2.CX P w) P w K mg base ["_law_atom_here", "_law_nots", "_law_word", "_law_left", "_law_right"] "_law_atom_text" (defScope s_law_atom_text) f cdv A outer s H E)) rfl rfl rfl rfl
    have po : PassesOwn (model P w) (cxOf (L2.CX P w) P w K mg base ["_law_atom_here", "_law_nots", "_law_word", "_law_left", "_law_right"] "_law_atom_text" (defScope s_law_atom_text) f cdv A outer s H E).A (cxOf (L2.CX P w) P w K mg base ["_law_atom_here", "_law_nots", "_law_word", "_law_left", "_law_right"] "_law_atom_text" (defScope s_law_atom_text) f cdv A outer s H E).env (cxOf (L2.CX P w) P w K mg base ["_law_atom_here", "_law_nots", "_law_word", "_law_left", "_law_right"] "_law_atom_text" (defScope s_law_atom_text) f cdv A outer s H E).xe := passes_of (X := (cxOf (L2.CX P w) P w K mg base ["_law_atom_here", "_law_nots", "_law_word", "_law_left", "_law_right"] "_law_atom_text" (defScope s_law_atom_text) f cdv A outer s H E)) rfl
    obtain ⟨W, v, ⟨n, a⟩, rfl, dv, hw, ⟨hn, hs⟩, k⟩ := h
    have hn : n ≤ 2 := hn
    have hrl : (rep "not " n).length ≤ 8 := by
      rw [rep_len, show (("not " : Str)).length = 4 from rfl]; omega
    have l1 : ((" " : Str)).length = 1 := rfl
    refine ⟨_, (pss_cons (ps_asg (pv 0) (q_gtup K 4 (pgs_cons (q_name 1 nd) (pgs_cons (q_name 2 nd) (pgs_cons (q_name 3 nd) (pgs_cons (q_name 4 nd) pgs_nil)))))) (pss_cons (ps_if (q_truth K (pe_callB (cl_isinstance K) (by rfl) T.n_isinstance bt_isinstance (pa_cons (pv 3) (pa_cons (q_bltn T.n_str bt_str) pa_nil)))) (pss_one (ps_ret (pe_op op_dAdd (pe_op op_dAdd (pe_op op_dAdd (pe_op op_dMul pe_str (pv 1)) (pv 2)) pe_str) (pv 3)))) pss_nil) (pss_one (ps_ret (pe_op op_dAdd (pe_op op_dAdd (pe_op op_dAdd (pe_op op_dAdd (pe_op op_dAdd (pe_op op_dMul pe_str (pv 1)) (q_call C__law_sum_text tk (hr.mono (by decide)) (pa_cons (pv 3) pa_nil))) pe_str) (pv 2)) pe_str) (q_call C__law_sum_text tk (hr.mono (by decide)) (pa_cons (pv 4) pa_nil))))))), ?_⟩
    refine g_start (σ' := some _ :: none :: none :: none :: none :: []) rfl ?_
    cases a with
    | word bb w x =>
      obtain ⟨hs1, hs2⟩ := hs
      obtain ⟨t, rfl⟩ := Df.isRefT dv
      walk_at "go"
      refine g_gtupd dv rfl fun xs hxs => ?_
      obtain ⟨v1, v2, rfl, d1, d2⟩ := cells4 hxs
      obtain rfl := d1.isStr
      walk_at "go"
      refine g_isi (b := true) (.ty _) (.base (.str _)) (by rfl) ?_
      walk_at "go"
      refine g_mul_s (mulOk_small (by omega) (by omega) (by decide)) ?_
      rw [mul_rep (by omega), Int.toNat_natCast]
      walk_at "go"
      refine g_add_s (by rw [sizeLine_eq]; omega) ?_
      walk_at "go"
      refine g_add_s (by rw [sizeLine_eq, Str.length_append]; omega) ?_
      walk_at "go"
      refine g_add_s (by rw [sizeLine_eq, Str.length_append, Str.length_append]; omega) ?_
      have e : spc (naT (n, .word bb w x)) = rep "not " n ++ w ++ " " ++ x := by
        show spc (List.replicate n ("not" : Str) ++ [w, x]) = _
        rw [← rep_spc (by simp), spc_cons (by simp)]
        show rep "not " n ++ (w ++ " " ++ x) = _
        simp only [app_assoc]
      have := k H Ed.refl
      rw [e] at this
      exact this
    | cmp bb s l r =>
      obtain ⟨h1, h2, h3, h4, h5, h6, h7⟩ := hs
      have a1 := sumT_len h4 h6
      have a2 := sumT_len h5 h7
      obtain ⟨t, rfl⟩ := Df.isRefT dv
      walk_at "go"
      refine g_gtupd dv rfl fun xs hxs => ?_
      obtain ⟨v1, v2, rfl, d1, d2⟩ := cells4 hxs
      obtain ⟨p1, rfl⟩ := Df.isRefL d1
      obtain ⟨p2, rfl⟩ := Df.isRefL d2
      obtain ⟨ys, _, hc, _⟩ := d1.cells
      walk_at "go"
      refine g_isi (b := false) (.ty _) (.base (.lst hc)) (by rfl) ?_
      walk_at "go"
      refine g_mul_s (mulOk_small (by omega) (by omega) (by decide)) ?_
      rw [mul_rep (by omega), Int.toNat_natCast]
      walk_at "go"
      refine ⟨W, p1, l, rfl, d1, hw, h4, h6, fun H1 e1 => ?_⟩
      refine g_add_s (by rw [sizeLine_eq]; omega) ?_
      walk_at "go"
      refine g_add_s (by rw [sizeLine_eq, Str.length_append]; omega) ?_
      walk_at "go"
      refine g_add_s (by rw [sizeLine_eq, Str.length_append, Str.length_append]; omega) ?_
      walk_at "go"
      refine g_add_s (by rw [sizeLine_eq, Str.length_append, Str.length_append, Str.length_append]; omega) ?_
      walk_at "go"
      refine ⟨W, p2, r, rfl, d2.ed e1 no0, hw.ed e1, h5, h7, fun H2 e2 => ?_⟩
      refine g_add_s (by rw [sizeLine_eq, Str.length_append, Str.length_append, Str.length_append, Str.length_append]; omega) ?_
      have e : spc (naT (n, .cmp bb s l r)) = rep "not " n ++ spc (sumT l) ++ " " ++ s ++ " " ++ spc (sumT r) := by
        show spc (List.replicate n ("not" : Str) ++ (sumT l ++ (s :: sumT r))) = _
        rw [← rep_spc (by simp), spc_app (sumT_ne h2) (by simp), spc_cons (sumT_ne h3)]
        show rep "not " n ++ _ = _
        simp only [app_assoc]
      have := k H2 (by walk_at "ed")
      rw [e] at this
      exact this
end
section
variable {P : Program} {w : World} {K : PySem.W.Frag} {mg : Str → Option Value} {base : Heap}
theorem ok_law_condition_text {f : Addr} {fd : FuncData} (F : FnP K "_law_condition_text" "_law_condition_text" s_law_condition_text f fd) (T : Txt K mg) (C__law_atom_text : Cal P w K mg base 2 "_law_atom_text" ["_law_atom_here"] (sp_law_atom_text K))  : FnOk P w K mg base (L2.CX P w) 3 f fd ["_law_parts"] (sp_law_condition_text K) := by
  refine F.ok sc_law_condition_text (fun vs H Q E h => ?_) (fun cdv A outer s H vs Q E hr h => ?_)
  · obtain ⟨W, p, ps, rfl, _⟩ := h
    rfl
  · have nd := sc_law_condition_text.nd
    have tk := takes_of (E := E) (X := (cxOf (L2.CX P w) P w K mg base ["_law_parts", "_law_part", "_law_atom_here"] "_law_condition_text" (defScope s_law_condition_text) f cdv A outer s H E)) rfl rfl rfl rfl
    have po : PassesOwn (model P w) (cxOf (L2.CX P w) P w K mg base ["_law_parts", "_law_part", "_law_atom_here"] "_law_condition_text" (defScope s_law_condition_text) f cdv A outer s H E).A (cxOf (L2.CX P w) P w K mg base ["_law_parts", "_law_part", "_law_atom_here"] "_law_condition_text" (defScope s_law_condition_text) f cdv A outer s H E).env (cxOf (L2.CX P w) P w K mg base ["_law_parts", "_law_part", "_law_atom_here"] "_law_condition_text" (defScope s_law_condition_text) f cdv A outer s H E).xe := passes_of (X := (cxOf (L2.CX P w) P w K mg base ["_law_parts", "_law_part", "_law_atom_here"] "_law_condition_text" (defScope s_law_condition_text) f cdv A outer s H E)) rfl
    obtain ⟨W, p, ps, rfl, dp, hw, hl, hps, k⟩ := h
    have hpl : ∀ x ∈ ps, ((x.map fun a => spc (naT a)).map (·.length)).sum + (x.map fun a => spc (naT a)).length * (" and " : Str).length ≤ 2100 ∧ (spc (partT x)).length ≤ 2100 := fun x hx => by
      obtain ⟨_, h2, h3⟩ := hps x hx
      have h8 : ∀ t ∈ x.map fun a => spc (naT a), t.length ≤ 200 := fun t ht => by
        obtain ⟨a, ha, rfl⟩ := List.mem_map.mp ht
        exact na_text_len (h3 a ha)
      have a1 := sum_len_le h8
      have a2 := join_len_le " and " 200 _ h8
      rw [join_part] at a2
      rw [List.length_map] at a1 a2
      rw [List.length_map, show ((" and " : Str)).length = 5 from rfl] at *
      omega
    refine ⟨_, (pss_one (ps_ret (q_bm K PySem.F.plainAttrs_str PySem.F.slot_str_join PySem.F.type_str_join (m_join K) pe_str (pa_cons (pe_lc (own := [("_law_part", 1)]) (tt := tYes) rfl nd (q_list K (pv 0)) (blkOk_by (own := [("_law_part", 1)]) (N := ["_law_parts", "_law_part", "_law_atom_here"]) (sc := defScope s_law_condition_text) (by decide +kernel)) (fun _ _ _ _ _ => (q_name 1 nd)) (fun _ _ _ _ _ => pts_nil) (fun _ _ _ _ _ => (q_bm K PySem.F.plainAttrs_str PySem.F.slot_str_join PySem.F.type_str_join (m_join K) pe_str (pa_cons (pe_lc (own := [("_law_atom_here", 2)]) (tt := tYes) rfl nd (q_list K (pv 1)) (blkOk_by (own := [("_law_atom_here", 2)]) (by kernel_rfl)) (fun _ _ _ _ _ => (q_name 2 nd)) (fun _ _ _ _ _ => pts_nil) (fun _ _ _ _ _ => (q_call C__law_atom_text takes0 (hr.mono (by decide)) (pa_cons (pv 2) pa_nil)))) pa_nil)))) pa_nil)))), ?_⟩
    refine g_start (σ' := some _ :: none :: none :: []) rfl ?_
    walk_at "go"
    intro D hD
    refine lc_df (by walk_at "wipe") (U := []) (W := W) dp (by rw [List.length_map, sizeLine_eq]; omega) hD hw no0 (fun i acc => acc = (ps.take i).map fun p => PyData.str (spc (partT p))) (fun _ => True) (fun _ _ _ _ => trivial) trivial rfl ?_ ?_
    · rintro i x d acc H1 R N hd hacc _ e1 w1 hx yes no
      obtain ⟨pt, hpt, rfl⟩ := at_map hd
      have hpm := List.mem_of_getElem? hpt
      obtain ⟨h1, h2, h3⟩ := hps pt hpm
      obtain ⟨pa, rfl⟩ := Df.isRefL hx
      have hx : Df (D :: W) H1 (.ref pa) (.list (pt.map naD)) := hx
      walk_at "go"
      refine ⟨rfl, ?_⟩
      walk_at "go"
      intro D2 hD2
      refine lc_df (by walk_at "wipe") (U := []) (W := D :: W) hx (by rw [List.length_map, sizeLine_eq]; omega) hD2 w1 no0 (fun j acc => acc = (pt.take j).map fun a => PyData.str (spc (naT a))) (fun _ => True) (fun _ _ _ _ => trivial) trivial rfl ?_ ?_
      · rintro j y dd acc2 H2 R2 N2 hdd hacc2 _ e2 w2 hy yes2 no2
        obtain ⟨a, ha, rfl⟩ := at_map hdd
        walk_at "go"
        refine ⟨rfl, ?_⟩
        walk_at "go"
        refine ⟨D2 :: D :: W, y, a, rfl, hy, w2, h3 a (List.mem_of_getElem? ha), fun H3 e3 => ?_⟩
        exact yes2 _ _ _ e3 (.str _) trivial (by rw [hacc2, take_snoc ha])
      · rintro acc2 H2 hacc2 _ e2 d2 _
        rw [take_all rfl] at hacc2
        have hacc2 : acc2 = (pt.map fun a => spc (naT a)).map PyData.str := by rw [hacc2, List.map_map]; rfl
        subst hacc2
        walk_at "go"
        refine g_joind d2 (by have := (hpl pt hpm).1; omega) ?_
        refine yes _ _ _ (by walk_at "ed") (.str _) trivial ?_
        rw [hacc, take_snoc hpt, join_txt, join_part]
    · rintro acc H1 hacc _ e1 d1 _
      rw [take_all rfl] at hacc
      have hacc : acc = (ps.map fun p => spc (partT p)).map PyData.str := by rw [hacc, List.map_map]; rfl
      subst hacc
      walk_at "go"
      have h8 : ∀ t ∈ ps.map fun p => spc (partT p), t.length ≤ 2100 := fun t ht => by
        obtain ⟨x, hx, rfl⟩ := List.mem_map.mp ht
        exact (hpl x hx).2
      have a1 := sum_len_le h8
      have a2 := join_len_le " or " 2100 _ h8
      rw [join_cond ps fun p hp => (hps p hp).1] at a2
      rw [List.length_map] at a1 a2
      have l4 : ((" or " : Str)).length = 4 := rfl
      refine g_joind d1 (by rw [List.length_map, l4]; omega) ?_
      rw [join_txt, join_cond ps fun p hp => (hps p hp).1]
      rw [l4] at a2
      exact k H1 e1 (by omega)
end
section
variable {P : Program} {w : World} {K : PySem.W.Frag} {mg : Str → Option Value} {base : Heap}
theorem ok_law_is_number {f : Addr} {fd : FuncData} (F : FnP K "_law_is_number" "_law_is_number" s_law_is_number f fd) (T : Txt K mg)   : FnOk P w K mg base (L2.CX P w) 1 f fd ["_law_token"] (sp_law_is_number K) := by
  refine F.ok sc_law_is_number (fun vs H Q E h => ?_) (fun cdv A outer s H vs Q E hr h => ?_)
  · obtain ⟨t, rfl, _⟩ := h
    rfl
  · have nd := sc_law_is_number.nd
    have tk := takes_of (E := E) (X := (cxOf (L2.CX P w) P w K mg base ["_law_token", "_law_sign"] "_law_is_number" (defScope s_law_is_number) f cdv A outer s H E)) rfl rfl rfl rfl
    have po : PassesOwn (model P w) (cxOf (L2.CX P w) P w K mg base ["_law_token", "_law_sign"] "_law_is_number" (defScope s_law_is_number) f cdv A outer s H E).A (cxOf (L2.CX P w) P w K mg base ["_law_token", "_law_sign"] "_law_is_number" (defScope s_law_is_number) f cdv A outer s H E).env (cxOf (L2.CX P w) P w K mg base ["_law_token", "_law_sign"] "_law_is_number" (defScope s_law_is_number) f cdv A outer s H E).xe := passes_of (X := (cxOf (L2.CX P w) P w K mg base ["_law_token", "_law_sign"] "_law_is_number" (defScope s_law_is_number) f cdv A outer s H E)) rfl
    obtain ⟨t, rfl, hl, ha, k⟩ := h
    have hz : t.length ≤ sizeLine := by rw [sizeLine_eq]; omega
    refine ⟨_, (pss_cons (ps_if (PW.pt (pw_or (pt_cmpR op_dGt (pe_callB (cl_len K) (by rfl) T.n_len bt_len (pa_cons (pv 0) pa_nil)) pe_int (nomark _)) (pw_or (pt_cmpR (op_dEq K hr.units) (pv 0) pe_str (nomark _)) (pw_or1 (pt_cmpR (op_dNe K hr.units) (pe_lc (own := [("_law_sign", 1)]) rfl nd (pi_str (pv 0)) (blkOk_by (own := [("_law_sign", 1)]) (N := ["_law_token", "_law_sign"]) (sc := defScope s_law_is_number) (by decide +kernel)) (fun _ _ _ _ _ => (q_name 1 nd)) (fun _ _ _ _ _ => (pts_one (pt_cmpR (op_dNotIn K) (pv 1) pe_str (by rfl)))) (fun _ _ _ _ _ => (pv 1))) (pe_lst pa_nil) (nomark _)))))) (pss_one (ps_ret pe_bl)) pss_nil) (pss_one (ps_ret (q_orT K (pe_cmpR (op_dEq K hr.units) (pv 0) pe_str (nomark _)) (pe_one (pe_cmpR (op_dNe K hr.units) (pe_ix (ix_dyn K) (pv 0) pe_int (fun _ _ => rfl)) pe_str (nomark _))))))), ?_⟩
    refine g_start (σ' := some _ :: none :: []) rfl ?_
    walk_at "go"
    refine g_iteD (fun e2 => ?_) (fun e2 => ?_)
    · walk_at "go"
      rw [show isNum t = false by unfold isNum; rw [decide_eq_true e2, Bool.or_true]; rfl] at k
      exact k H (Same.refl H)
    · walk_at "go"
      refine g_iteD (fun e => ?_) (fun e => ?_)
      · walk_at "go"
        rw [show isNum t = false by unfold isNum; rw [decide_eq_true e]; rfl] at k
        exact k H (Same.refl H)
      · walk_at "go"
        intro D hD
        refine lc_by walk_str (fun i H' => Same H H' ∧ H' D = some (.lst ((((t.cps.toList.take i).filter fun c => !decide (c ∈ digs.cps.toList)).map fun c => (⟨#[c]⟩ : Str)).map V.str))) ⟨(Same.refl H).new hD, upd_same⟩ (fun _ _ _ _ => trivial) ?_ ?_
        · rintro i x H1 H2 hi ⟨s1, hd1⟩ ⟨rfl, c, hc, rfl⟩
          have hc' : t.cps.toList[i]? = some c := by simpa using hc
          walk_at "go"
          refine ⟨rfl, ?_⟩
          walk_at "go"
          refine g_iteN (fun hn => ?_) (fun hn => ?_)
          · walk_at "go"
            refine ⟨_, hd1, ?_, s1.mut hD, ?_⟩
            · rw [sizeLine_eq]
              have := List.length_filter_le (fun c => !decide (c ∈ digs.cps.toList)) (t.cps.toList.take i)
              have h2 : (t.cps.toList.take i).length ≤ 10000 := by rw [List.length_take]; simp [Str.length] at hl ⊢; omega
              simp only [List.length_map]
              omega
            · have hn' : decide (c ∈ digs.cps.toList) = false := decide_eq_false hn
              rw [upd_same, filter_take hc', hn']
              simp
          · have hn' : decide (c ∈ digs.cps.toList) = true := decide_eq_true hn
            refine ⟨s1, ?_⟩
            rw [filter_take hc', hn', hd1]
            simp
        · rintro H1 ⟨s1, hd1⟩
          rw [List.take_of_length_le (by simp)] at hd1
          walk_at "go"
          refine al fun q hq => ?_
          refine g_neLs (ys := []) (sok_single (l := notDigs t.cps.toList) fun c hc => ha c (List.mem_filter.mp hc).1) (fun x hx => by cases hx) (SqL.of (by walk_at "hp")) (SqL.of upd_same) ?_
          walk_at "go"
          refine g_iteN (fun e3 => ?_) (fun e3 => ?_)
          · walk_at "go"
            have hb : (t.cps.toList.all fun c => decide (c ∈ digs.cps.toList)) = false := by
              rw [Bool.eq_false_iff]
              intro z
              exact e3 (by rw [notDigs_nil.mpr z]; rfl)
            rw [show isNum t = false by unfold isNum; rw [hb]; simp] at k
            exact k _ (s1.new hq)
          · have ha' : (t.cps.toList.all fun c => decide (c ∈ digs.cps.toList)) = true := notDigs_nil.mp (List.map_eq_nil_iff.mp e3)
            have kk : ∀ H', Same H H' → Q (.bl (decide (t = "0") || !decide ((⟨#[t.cps.toList.headD 0]⟩ : Str) = "0"))) H' := by
              have : isNum t = (decide (t = "0") || !decide ((⟨#[t.cps.toList.headD 0]⟩ : Str) = "0")) := by
                unfold isNum
                rw [ha', decide_eq_false e, decide_eq_false e2]
                simp
              rw [← this]
              exact k
            walk_at "go"
            refine g_iteD (fun e5 => ?_) (fun e5 => ?_)
            · rw [decide_eq_true e5] at kk ⊢
              exact kk _ (s1.new hq)
            · walk_at "go"
              refine g_ix_s hz (atI_zero (nil_of_ne e)) ?_
              walk_at "go"
              rw [decide_eq_false e5] at kk
              exact kk _ (s1.new hq)
end
section
variable {P : Program} {w : World} {K : PySem.W.Frag} {mg : Str → Option Value} {base : Heap}
theorem ok_law_next {f : Addr} {fd : FuncData} (F : FnP K "_law_next" "_law_next" s_law_next f fd) (T : Txt K mg) (C__law_is_number : Cal P w K mg base 1 "_law_is_number" ["_law_token"] (sp_law_is_number K))  : FnOk P w K mg base (L2.CX P w) 2 f fd ["_law_token", "_law_place", "_law_count", "_law_words"] (sp_law_next K) := by
  refine F.ok sc_law_next (fun vs H Q E h => ?_) (fun cdv A outer s H vs Q E hr h => ?_)
  · obtain ⟨W, t, p, c, wp, w, rfl, _⟩ := h
    rfl
  · have nd := sc_law_next.nd
    have tk := takes_of (E := E) (X := (cxOf (L2.CX P w) P w K mg base ["_law_token", "_law_place", "_law_count", "_law_words", "_law_names_here", "_law_handle", "_law_request", "_law_is_term", "_law_signs", "_law_begins"] "_law_next" (defScope s_law_next) f cdv A outer s H E)) rfl rfl rfl rfl
    have po : PassesOwn (model P w) (cxOf (L2.CX P w) P w K mg base ["_law_token", "_law_place", "_law_count", "_law_words", "_law_names_here", "_law_handle", "_law_request", "_law_is_term", "_law_signs", "_law_begins"] "_law_next" (defScope s_law_next) f cdv A outer s H E).A (cxOf (L2.CX P w) P w K mg base ["_law_token", "_law_place", "_law_count", "_law_words", "_law_names_here", "_law_handle", "_law_request", "_law_is_term", "_law_signs", "_law_begins"] "_law_next" (defScope s_law_next) f cdv A outer s H E).env (cxOf (L2.CX P w) P w K mg base ["_law_token", "_law_place", "_law_count", "_law_words", "_law_names_here", "_law_handle", "_law_request", "_law_is_term", "_law_signs", "_law_begins"] "_law_next" (defScope s_law_next) f cdv A outer s H E).xe := passes_of (X := (cxOf (L2.CX P w) P w K mg base ["_law_token", "_law_place", "_law_count", "_law_words", "_law_names_here", "_law_handle", "_law_request", "_law_is_term", "_law_signs", "_law_begins"] "_law_next" (defScope s_law_next) f cdv A outer s H E)) rfl
    obtain ⟨W, t, p, c, wp, w, rfl, dw, hw, hl, ha, k⟩ := h
    refine ⟨_, (pss_cons (ps_asg (pv 3) (q_gtup K 3 (pgs_cons (q_name 4 nd) (pgs_cons (q_name 5 nd) (pgs_cons (q_name 6 nd) pgs_nil))))) (pss_cut (q_set 7 nd (q_orT K (pe_cmpR (op_dIn K) (pv 0) (pv 4) (by rfl)) (pe_one (q_call C__law_is_number tk (hr.mono (by decide)) (pa_cons (pv 0) pa_nil))))) (pss_cons (q_set 8 nd (pe_lst (pa_cons pe_str (pa_cons pe_str (pa_cons pe_str (pa_cons pe_str (pa_cons pe_str (pa_cons pe_str pa_nil)))))))) (pss_cons (q_set 9 nd (pe_disp (pps_cons pe_str pe_str (pps_cons pe_str pe_str (pps_cons pe_str pe_str (pps_cons pe_str pe_str pps_nil)))) rfl rfl (by simp) (by decide))) (pss_cut (ps_if (PW.pt (pw_and (pt_cmpR (op_dEq K hr.units) (pv 1) pe_str (nomark _)) (pw_and (pt_cmp (pc_din (units1 hr.units) (pv 0) (pv 9))) (pw_and1 (pt_cmpR (op_dNe K hr.units) (pe_dget2 (units1 hr.units) (pe_disp (pps_cons pe_str (pv 5) (pps_cons pe_str (pv 6) pps_nil)) rfl rfl (by simp) (by decide)) (pe_dget (units1 hr.units) (pv 9) (pv 0) (fun _ _ => rfl)) (pv 0) ⟨by rfl, by rfl, by rfl, by rfl⟩) pe_str (nomark _)))))) (pss_one (ps_ret (pe_tup (pa_cons (pe_dget (units1 hr.units) (pv 9) (pv 0) (fun _ _ => rfl)) (pa_cons pe_int pa_nil))))) pss_nil) (pss_cut (ps_if (PW.pt (pw_and (pt_cmpR (op_dIn K) (pv 1) (pe_lst (pa_cons pe_str (pa_cons pe_str pa_nil))) (by rfl)) (pw_and1 (q_truth K (pv 7))))) (pss_one (ps_ret (pe_tup (pa_cons pe_str (pa_cons (pe_op op_dAdd (pv 2) pe_int) pa_nil))))) pss_nil) (pss_cut (ps_if (PW.pt (pw_and (pt_cmpR (op_dEq K hr.units) (pv 1) pe_str (nomark _)) (pw_and1 (q_truth K (pv 7))))) (pss_one (ps_ret (pe_tup (pa_cons pe_str (pa_cons (pe_op op_dAdd (pv 2) pe_int) pa_nil))))) pss_nil) (pss_cut (ps_if (PW.pt (pw_and (pt_cmpR (op_dEq K hr.units) (pv 1) pe_str (nomark _)) (pw_and1 (pt_cmpR (op_dIn K) (pv 0) (pv 8) (by rfl))))) (pss_one (ps_ret (pe_tup (pa_cons pe_str (pa_cons pe_int pa_nil))))) pss_nil) (pss_cut (ps_if (PW.pt (pw_and (pt_cmpR (op_dIn K) (pv 1) (pe_lst (pa_cons pe_str (pa_cons pe_str pa_nil))) (by rfl)) (pw_and (pt_cmpR (op_dIn K) (pv 0) (pe_lst (pa_cons pe_str (pa_cons pe_str pa_nil))) (by rfl)) (pw_and1 (pt_cmpR op_dLt (pv 2) pe_int (nomark _)))))) (pss_one (ps_ret (pe_tup (pa_cons (pe_slice (sl_dyn K) (pv 1) (po_some pe_int) po_none) (pa_cons (pv 2) pa_nil))))) pss_nil) (pss_cut (ps_if (PW.pt (pw_or (PW.pt (pw_and (pt_cmpR (op_dEq K hr.units) (pv 1) pe_str (nomark _)) (pw_and1 (pt_cmpR (op_dEq K hr.units) (pv 0) (pv 5) (nomark _))))) (pw_or1 (PW.pt (pw_and (pt_cmpR (op_dEq K hr.units) (pv 1) pe_str (nomark _)) (pw_and1 (pt_cmpR (op_dEq K hr.units) (pv 0) (pv 6) (nomark _)))))))) (pss_one (ps_ret (pe_tup (pa_cons pe_str (pa_cons pe_int pa_nil))))) pss_nil) (pss_cut (ps_if (PW.pt (pw_and (pt_cmpR (op_dIn K) (pv 1) (pe_lst (pa_cons pe_str (pa_cons pe_str pa_nil))) (by rfl)) (pw_and1 (pt_cmpR (op_dIn K) (pv 0) (pe_lst (pa_cons pe_str (pa_cons pe_str pa_nil))) (by rfl))))) (pss_one (ps_ret (pe_tup (pa_cons pe_str (pa_cons pe_int pa_nil))))) pss_nil) (pss_one (ps_ret (pe_tup (pa_cons pe_str (pa_cons pe_int pa_nil)))))))))))))))), ?_⟩
    refine g_start (σ' := some _ :: some _ :: some _ :: some _ :: none :: none :: none :: none :: none :: none :: []) rfl ?_
    walk_at "go"
    refine g_gtupd dw rfl fun xs hxs => ?_
    obtain ⟨v, rfl, dn⟩ := cells3 hxs
    obtain ⟨nm, rfl⟩ := Df.isRefL dn
    walk_at "go"
    refine g_cut (fun σ' H' => σ' = [some (.str t), some (.str (plS p)), some (.int (c : Nat)), some (.ref wp), some (.ref nm), some (.str w.hd), some (.str w.rq), some (.bl (isTerm w t)), none, none] ∧ Ed [] H H') (fun R hR => ?_) ?_
    · walk_at "go"
      refine g_iteD (fun hin => ?_) (fun hin => ?_)
      · walk_at "go"
        have e : isTerm w t = true := by unfold isTerm; rw [decide_eq_true hin]; rfl
        exact hR _ _ ⟨by rw [e, decide_eq_true hin], Ed.refl⟩
      · walk_at "go"
        refine ⟨t, rfl, by omega, ha, fun H1 s1 => ?_⟩
        walk_at "go"
        have e : isTerm w t = isNum t := by unfold isTerm; rw [decide_eq_false hin, Bool.false_or]
        exact hR _ _ ⟨by rw [e], Ed.same s1⟩
    rintro σ' H1 ⟨rfl, e1⟩
    have w1 := hw.ed e1
    walk_at "go"
    refine al fun sg hsg => ?_
    generalize hH2 : upd H1 sg _ = H2
    obtain ⟨e2, dsg⟩ := new_l (W := W) hH2 hsg (by walk_at "dfs") (by walk_at "wl")
    clear hH2
    have dsg : Df W H2 (.ref sg) (.list (signs6.map PyData.str)) := dsg
    walk_at "go"
    intro bg H3 hbg e3 g3
    walk_at "go"
    refine ⟨g3, begK, rfl, Nat.le_of_ble_eq_true rfl, ?_⟩
    generalize hH4 : upd H3 bg _ = H4
    obtain ⟨e4, dbg⟩ := new_d (W := W) hH4 (by walk_at "wl") hbg
    clear hH4
    have dsg4 : Df W H4 (.ref sg) (.list (signs6.map PyData.str)) := by walk_at "df"
    have e04 : Ed [] H H4 := by walk_at "ed"
    have w4 := hw.ed e04
    clear e1 e2 e3 e4 w1 dsg g3
    have pA : plS p = "atom" ↔ p = .atom := pl_at rfl
    have pL : plS p = "left" ↔ p = .left := pl_at rfl
    have pR : plS p = "right" ↔ p = .right := pl_at rfl
    have pBL : plS p = "behind left" ↔ p = .bleft := pl_at rfl
    have pBR : plS p = "behind right" ↔ p = .bright := pl_at rfl
    have pH : plS p = "handle" ↔ p = .handle := pl_at rfl
    have pQ : plS p = "request" ↔ p = .request := pl_at rfl
    have pJ : plS p = "joined" ↔ p = .joined := pl_at rfl
    walk_at "go"
    refine g_cut (fun σ' H' => σ' = [some (.str t), some (.str (plS p)), some (.int (c : Nat)), some (.ref wp), some (.ref nm), some (.str w.hd), some (.str w.rq), some (.bl (isTerm w t)), some (.ref sg), some (.ref bg)] ∧ Ed [] H H' ∧ Ed [] H4 H' ∧ ¬ (p = .atom ∧ t = "not") ∧ ¬ (p = .atom ∧ (t = "none" ∨ t = "live") ∧ w.hd ≠ "") ∧ ¬ (p = .atom ∧ t = "open" ∧ w.rq ≠ "")) (fun R hR => ?_) ?_
    · walk_at "go"
      obtain ⟨hv1, hv2, hv3⟩ := hrK_val (w := w)
      refine g_iteD (fun a1 => ?_) (fun a1 => ?_)
      · have hp := pA.mp a1
        walk_at "go"
        rcases begK_val t with ⟨ht, hv⟩ | ⟨ht, hv⟩ | ⟨ht, hv⟩ | ⟨ht, hv⟩
        · refine g_dind dbg hv ?_
          walk_at "go"
          refine g_iteT rfl ?_
          walk_at "go"
          intro dd H5 hdd e5 g5
          walk_at "go"
          refine ⟨g5, (hrK w), rfl, Nat.le_of_ble_eq_true rfl, ?_⟩
          generalize hH6 : upd H5 dd _ = H6
          obtain ⟨e6, ddd⟩ := new_d (W := W) hH6 (by walk_at "wl") hdd
          clear hH6
          have e46 : Ed [] H4 H6 := by clear e04; walk_at "ed"
          have dbg6 := dbg.ed e46 no0
          clear e5 e6
          walk_at "go"
          refine g_dgo ddd hv3 ?_
          show dNe K (V.str t) (.str "") _ _
          walk_at "go"
          refine g_iteN (fun _ => ?_) (fun z => absurd (ht.symm.trans z) (by decide +kernel))
          walk_at "go"
          refine al fun q hq => ?_
          generalize hH7 : upd H6 q _ = H7
          obtain ⟨e7, dq⟩ := new_t (W := W) hH7 hq (by walk_at "dfs") (by walk_at "wl")
          clear hH7
          have hx : nextP w t p c = (.atom, 0) := by unfold nextP; rw [if_pos ⟨hp, ht⟩]
          exact k q H7 ((e04.tr e46 no0).tr e7 no0) (by rw [hx]; exact dq)
        · refine g_dind dbg hv ?_
          walk_at "go"
          refine g_iteT rfl ?_
          walk_at "go"
          intro dd H5 hdd e5 g5
          walk_at "go"
          refine ⟨g5, (hrK w), rfl, Nat.le_of_ble_eq_true rfl, ?_⟩
          generalize hH6 : upd H5 dd _ = H6
          obtain ⟨e6, ddd⟩ := new_d (W := W) hH6 (by walk_at "wl") hdd
          clear hH6
          have e46 : Ed [] H4 H6 := by clear e04; walk_at "ed"
          have dbg6 := dbg.ed e46 no0
          clear e5 e6
          walk_at "go"
          refine g_dgo ddd hv1 ?_
          show dNe K (V.str w.hd) (.str "") _ _
          walk_at "go"
          have n1 : ¬ (p = .atom ∧ t = "not") := fun z => by
            rw [z.2] at ht
            revert ht
            decide +kernel
          refine g_iteN (fun hd => ?_) (fun hd => ?_)
          · walk_at "go"
            refine al fun q hq => ?_
            generalize hH7 : upd H6 q _ = H7
            obtain ⟨e7, dq⟩ := new_t (W := W) hH7 hq (by walk_at "dfs") (by walk_at "wl")
            clear hH7
            have hx : nextP w t p c = (.handle, 0) := by unfold nextP; rw [if_neg n1, if_pos ⟨hp, ht, hd⟩]
            exact k q H7 ((e04.tr e46 no0).tr e7 no0) (by rw [hx]; exact dq)
          · walk_at "go"
            exact hR _ _ ⟨rfl, e04.tr e46 no0, e46, n1, fun z => z.2.2 hd, fun z => by
              rw [z.2.1] at ht
              revert ht
              decide +kernel⟩
        · refine g_dind dbg hv ?_
          walk_at "go"
          refine g_iteT rfl ?_
          walk_at "go"
          intro dd H5 hdd e5 g5
          walk_at "go"
          refine ⟨g5, (hrK w), rfl, Nat.le_of_ble_eq_true rfl, ?_⟩
          generalize hH6 : upd H5 dd _ = H6
          obtain ⟨e6, ddd⟩ := new_d (W := W) hH6 (by walk_at "wl") hdd
          clear hH6
          have e46 : Ed [] H4 H6 := by clear e04; walk_at "ed"
          have dbg6 := dbg.ed e46 no0
          clear e5 e6
          walk_at "go"
          refine g_dgo ddd hv2 ?_
          show dNe K (V.str w.rq) (.str "") _ _
          walk_at "go"
          have n1 : ¬ (p = .atom ∧ t = "not") := fun z => absurd (ht.symm.trans z.2) (by decide +kernel)
          have n2 : ¬ (p = .atom ∧ (t = "none" ∨ t = "live") ∧ w.hd ≠ "") := fun z => by
            have z := z.2.1
            rw [ht] at z
            revert z
            decide +kernel
          refine g_iteN (fun hd => ?_) (fun hd => ?_)
          · walk_at "go"
            refine al fun q hq => ?_
            generalize hH7 : upd H6 q _ = H7
            obtain ⟨e7, dq⟩ := new_t (W := W) hH7 hq (by walk_at "dfs") (by walk_at "wl")
            clear hH7
            have hx : nextP w t p c = (.request, 0) := by unfold nextP; rw [if_neg n1, if_neg n2, if_pos ⟨hp, ht, hd⟩]
            exact k q H7 ((e04.tr e46 no0).tr e7 no0) (by rw [hx]; exact dq)
          · walk_at "go"
            exact hR _ _ ⟨rfl, e04.tr e46 no0, e46, n1, n2, fun z => z.2.2 hd⟩
        · refine g_dind dbg hv ?_
          walk_at "go"
          refine g_iteF rfl ?_
          walk_at "go"
          exact hR _ _ ⟨rfl, e04, Ed.refl, fun z => ht.1 z.2, fun z => z.2.1.elim ht.2.1 ht.2.2.1, fun z => ht.2.2.2 z.2.1⟩
      · walk_at "go"
        exact hR _ _ ⟨rfl, e04, Ed.refl, fun z => a1 (pA.mpr z.1), fun z => a1 (pA.mpr z.1), fun z => a1 (pA.mpr z.1)⟩
    rintro σ' H5 ⟨rfl, e05, e45, n1, n2, n3⟩
    have dsg5 := dsg4.ed e45 no0
    have w5 := hw.ed e05
    clear e04 e45 dsg4 w4 dbg
    walk_at "go"
    refine g_cut (fun σ' H' => σ' = [some (.str t), some (.str (plS p)), some (.int (c : Nat)), some (.ref wp), some (.ref nm), some (.str w.hd), some (.str w.rq), some (.bl (isTerm w t)), some (.ref sg), some (.ref bg)] ∧ Ed [] H H' ∧ Ed [] H5 H' ∧ ¬ ((p = .atom ∨ p = .left) ∧ isTerm w t = true)) (fun R hR => ?_) ?_
    · walk_at "go"
      refine al fun l1 hl1 => ?_
      generalize hH6 : upd H5 l1 _ = H6
      obtain ⟨e6, dl1⟩ := new_l (W := W) hH6 hl1 (by walk_at "dfs") (by walk_at "wl")
      clear hH6
      have dl1 : Df W H6 (.ref l1) (.list ((["atom", "left"] : List Str).map PyData.str)) := dl1
      walk_at "go"
      refine g_iteD (fun a1 => ?_) (fun a1 => ?_)
      · have hp : p = .atom ∨ p = .left := by
          simp only [List.mem_cons, List.not_mem_nil, or_false] at a1
          exact a1.elim (fun z => .inl (pA.mp z)) fun z => .inr (pL.mp z)
        walk_at "go"
        refine g_ite (fun hT => ?_) (fun hT => ?_)
        · walk_at "go"
          refine al fun q hq => ?_
          generalize hH7 : upd H6 q _ = H7
          obtain ⟨e7, dq⟩ := new_t (W := W) hH7 hq (by walk_at "dfs") (by walk_at "wl")
          clear hH7
          have hx : nextP w t p c = (.bleft, c + 1) := by unfold nextP; rw [if_neg n1, if_neg n2, if_neg n3, if_pos ⟨hp, hT⟩]
          exact k q H7 ((e05.tr e6 no0).tr e7 no0) (by rw [hx]; exact dq)
        · walk_at "go"
          exact hR _ _ ⟨rfl, e05.tr e6 no0, e6, fun z => by rw [hT] at z; exact Bool.false_ne_true z.2⟩
      · walk_at "go"
        exact hR _ _ ⟨rfl, e05.tr e6 no0, e6, fun z => a1 (by
          simp only [List.mem_cons, List.not_mem_nil, or_false]
          exact z.1.elim (fun z => .inl (pA.mpr z)) fun z => .inr (pL.mpr z))⟩
    rintro σ' H6 ⟨rfl, e06, e56, n4⟩
    have dsg6 := dsg5.ed e56 no0
    have w6 := hw.ed e06
    clear e05 e56 dsg5 w5
    walk_at "go"
    refine g_cut (fun σ' H' => σ' = [some (.str t), some (.str (plS p)), some (.int (c : Nat)), some (.ref wp), some (.ref nm), some (.str w.hd), some (.str w.rq), some (.bl (isTerm w t)), some (.ref sg), some (.ref bg)] ∧ H6 = H' ∧ ¬ (p = .right ∧ isTerm w t = true)) (fun R hR => ?_) ?_
    · walk_at "go"
      refine g_iteD (fun a1 => ?_) (fun a1 => ?_)
      · walk_at "go"
        refine g_ite (fun hT => ?_) (fun hT => ?_)
        · walk_at "go"
          refine al fun q hq => ?_
          generalize hH7 : upd H6 q _ = H7
          obtain ⟨e7, dq⟩ := new_t (W := W) hH7 hq (by walk_at "dfs") (by walk_at "wl")
          clear hH7
          have hx : nextP w t p c = (.bright, c + 1) := by unfold nextP; rw [if_neg n1, if_neg n2, if_neg n3, if_neg n4, if_pos ⟨pR.mp a1, hT⟩]
          exact k q H7 (e06.tr e7 no0) (by rw [hx]; exact dq)
        · walk_at "go"
          exact hR _ _ ⟨rfl, rfl, fun z => by rw [hT] at z; exact Bool.false_ne_true z.2⟩
      · walk_at "go"
        exact hR _ _ ⟨rfl, rfl, fun z => a1 (pR.mpr z.1)⟩
    rintro σ' _ ⟨rfl, rfl, n5⟩
    walk_at "go"
    refine g_cut (fun σ' H' => σ' = [some (.str t), some (.str (plS p)), some (.int (c : Nat)), some (.ref wp), some (.ref nm), some (.str w.hd), some (.str w.rq), some (.bl (isTerm w t)), some (.ref sg), some (.ref bg)] ∧ H6 = H' ∧ ¬ (p = .bleft ∧ t ∈ signs6)) (fun R hR => ?_) ?_
    · walk_at "go"
      refine g_iteD (fun a1 => ?_) (fun a1 => ?_)
      · walk_at "go"
        refine g_iteD (fun hT => ?_) (fun hT => ?_)
        · walk_at "go"
          refine al fun q hq => ?_
          generalize hH7 : upd H6 q _ = H7
          obtain ⟨e7, dq⟩ := new_t (W := W) hH7 hq (by walk_at "dfs") (by walk_at "wl")
          clear hH7
          have hx : nextP w t p c = (.right, 0) := by unfold nextP; rw [if_neg n1, if_neg n2, if_neg n3, if_neg n4, if_neg n5, if_pos ⟨pBL.mp a1, hT⟩]
          exact k q H7 (e06.tr e7 no0) (by rw [hx]; exact dq)
        · walk_at "go"
          exact hR _ _ ⟨rfl, rfl, fun z => hT z.2⟩
      · walk_at "go"
        exact hR _ _ ⟨rfl, rfl, fun z => a1 (pBL.mpr z.1)⟩
    rintro σ' _ ⟨rfl, rfl, n6⟩
    walk_at "go"
    refine g_cut (fun σ' H' => σ' = [some (.str t), some (.str (plS p)), some (.int (c : Nat)), some (.ref wp), some (.ref nm), some (.str w.hd), some (.str w.rq), some (.bl (isTerm w t)), some (.ref sg), some (.ref bg)] ∧ Ed [] H H' ∧ Ed [] H6 H' ∧ ¬ (p = .bleft ∧ isOp t = true ∧ c < 5) ∧ ¬ (p = .bright ∧ isOp t = true ∧ c < 5)) (fun R hR => ?_) ?_
    · walk_at "go"
      refine al fun l1 hl1 => ?_
      generalize hH7 : upd H6 l1 _ = H7
      obtain ⟨e7, dl1⟩ := new_l (W := W) hH7 hl1 (by walk_at "dfs") (by walk_at "wl")
      clear hH7
      have dl1 : Df W H7 (.ref l1) (.list ((["behind left", "behind right"] : List Str).map PyData.str)) := dl1
      walk_at "go"
      refine g_iteD (fun a1 => ?_) (fun a1 => ?_)
      · have hp : p = .bleft ∨ p = .bright := by
          simp only [List.mem_cons, List.not_mem_nil, or_false] at a1
          exact a1.elim (fun z => .inl (pBL.mp z)) fun z => .inr (pBR.mp z)
        walk_at "go"
        refine al fun l2 hl2 => ?_
        generalize hH8 : upd H7 l2 _ = H8
        obtain ⟨e8, dl2⟩ := new_l (W := W) hH8 hl2 (by walk_at "dfs") (by walk_at "wl")
        clear hH8
        have dl2 : Df W H8 (.ref l2) (.list ((["+", "-"] : List Str).map PyData.str)) := dl2
        have e08 : Ed [] H H8 := (e06.tr e7 no0).tr e8 no0
        have e68 : Ed [] H6 H8 := e7.tr e8 no0
        have w8 := hw.ed e08
        walk_at "go"
        refine g_iteD (fun hT => ?_) (fun hT => ?_)
        · have hop : isOp t = true := by unfold isOp; simpa using hT
          walk_at "go"
          refine g_iteD (fun h5 => ?_) (fun h5 => ?_)
          · walk_at "go"
            refine g_slS (by rw [sizeLine_eq]; cases p <;> decide) ?_
            walk_at "go"
            refine al fun q hq => ?_
            generalize hH9 : upd H8 q _ = H9
            obtain ⟨e9, dq⟩ := new_t (W := W) hH9 hq (by walk_at "dfs") (by walk_at "wl")
            clear hH9
            rcases hp with rfl | rfl
            · have hx : nextP w t .bleft c = (.left, c) := by unfold nextP; rw [if_neg n1, if_neg n2, if_neg n3, if_neg n4, if_neg n5, if_neg n6, if_pos ⟨rfl, hop, by omega⟩]
              have hs : cutS (plS .bleft) (some 7) none = plS .left := by decide +kernel
              rw [hs] at dq
              exact k q H9 (e08.tr e9 no0) (by rw [hx]; exact dq)
            · have hx : nextP w t .bright c = (.right, c) := by unfold nextP; rw [if_neg n1, if_neg n2, if_neg n3, if_neg n4, if_neg n5, if_neg n6, if_neg (by simp), if_pos ⟨rfl, hop, by omega⟩]
              have hs : cutS (plS .bright) (some 7) none = plS .right := by decide +kernel
              rw [hs] at dq
              exact k q H9 (e08.tr e9 no0) (by rw [hx]; exact dq)
          · walk_at "go"
            exact hR _ _ ⟨rfl, e08, e68, fun z => h5 (by have := z.2.2; omega), fun z => h5 (by have := z.2.2; omega)⟩
        · walk_at "go"
          have hno : ¬ isOp t = true := fun z => hT (by unfold isOp at z; simpa using z)
          exact hR _ _ ⟨rfl, e08, e68, fun z => hno z.2.1, fun z => hno z.2.1⟩
      · walk_at "go"
        exact hR _ _ ⟨rfl, e06.tr e7 no0, e7, fun z => a1 (by simp only [List.mem_cons, List.not_mem_nil, or_false]; exact .inl (pBL.mpr z.1)), fun z => a1 (by simp only [List.mem_cons, List.not_mem_nil, or_false]; exact .inr (pBR.mpr z.1))⟩
    rintro σ' H7 ⟨rfl, e07, e67, n7, n8⟩
    have w7 := hw.ed e07
    clear e06 e67 dsg6 w6
    walk_at "go"
    refine g_cut (fun σ' H' => σ' = [some (.str t), some (.str (plS p)), some (.int (c : Nat)), some (.ref wp), some (.ref nm), some (.str w.hd), some (.str w.rq), some (.bl (isTerm w t)), some (.ref sg), some (.ref bg)] ∧ H7 = H' ∧ ¬ ((p = .handle ∧ t = w.hd) ∨ (p = .request ∧ t = w.rq))) (fun R hR => ?_) ?_
    · walk_at "go"
      have ret : ((p = .handle ∧ t = w.hd) ∨ (p = .request ∧ t = w.rq)) → ∀ q H8, Ed [] H7 H8 → Df W H8 (.ref q) (.tuple [.str "joined", .int 0]) → Q (.ref q) H8 := fun hc q H8 e8 dq => by
        have hx : nextP w t p c = (.joined, 0) := by unfold nextP; rw [if_neg n1, if_neg n2, if_neg n3, if_neg n4, if_neg n5, if_neg n6, if_neg n7, if_neg n8, if_pos hc]
        exact k q H8 (e07.tr e8 no0) (by rw [hx]; exact dq)
      have second : ¬ (p = .handle ∧ t = w.hd) → ∀ (A B : Prop), (p = .request ∧ t = w.rq → A) → (¬ (p = .request ∧ t = w.rq) → B) → (if decide (plS p = "request") = true then if decide (t = w.rq) = true then A else B else B) := fun _ A B hA hB => by
        refine g_iteD (fun a1 => ?_) (fun a1 => ?_)
        · refine g_iteD (fun a2 => hA ⟨pQ.mp a1, a2⟩) (fun a2 => hB fun z => a2 z.2)
        · exact hB fun z => a1 (pQ.mpr z.1)
      refine g_iteD (fun a1 => ?_) (fun a1 => ?_)
      · walk_at "go"
        refine g_iteD (fun a2 => ?_) (fun a2 => ?_)
        · walk_at "go"
          refine al fun q hq => ?_
          generalize hH8 : upd H7 q _ = H8
          obtain ⟨e8, dq⟩ := new_t (W := W) hH8 hq (by walk_at "dfs") (by walk_at "wl")
          clear hH8
          exact ret (.inl ⟨pH.mp a1, a2⟩) q H8 e8 dq
        · walk_at "go"
          refine g_iteD (fun b1 => ?_) (fun b1 => ?_)
          · exact absurd ((pH.mp a1).symm.trans (pQ.mp b1)) (by simp)
          · walk_at "go"
            exact hR _ _ ⟨rfl, rfl, fun z => z.elim (fun z => a2 z.2) fun z => b1 (pQ.mpr z.1)⟩
      · walk_at "go"
        refine g_iteD (fun b1 => ?_) (fun b1 => ?_)
        · walk_at "go"
          refine g_iteD (fun b2 => ?_) (fun b2 => ?_)
          · walk_at "go"
            refine al fun q hq => ?_
            generalize hH8 : upd H7 q _ = H8
            obtain ⟨e8, dq⟩ := new_t (W := W) hH8 hq (by walk_at "dfs") (by walk_at "wl")
            clear hH8
            exact ret (.inr ⟨pQ.mp b1, b2⟩) q H8 e8 dq
          · walk_at "go"
            exact hR _ _ ⟨rfl, rfl, fun z => z.elim (fun z => a1 (pH.mpr z.1)) fun z => b2 z.2⟩
        · walk_at "go"
          exact hR _ _ ⟨rfl, rfl, fun z => z.elim (fun z => a1 (pH.mpr z.1)) fun z => b1 (pQ.mpr z.1)⟩
    rintro σ' _ ⟨rfl, rfl, n9⟩
    walk_at "go"
    refine g_cut (fun σ' H' => σ' = [some (.str t), some (.str (plS p)), some (.int (c : Nat)), some (.ref wp), some (.ref nm), some (.str w.hd), some (.str w.rq), some (.bl (isTerm w t)), some (.ref sg), some (.ref bg)] ∧ Ed [] H H' ∧ ¬ ((p = .joined ∨ p = .bright) ∧ (t = "and" ∨ t = "or"))) (fun R hR => ?_) ?_
    · walk_at "go"
      refine al fun l1 hl1 => ?_
      generalize hH8 : upd H7 l1 _ = H8
      obtain ⟨e8, dl1⟩ := new_l (W := W) hH8 hl1 (by walk_at "dfs") (by walk_at "wl")
      clear hH8
      have dl1 : Df W H8 (.ref l1) (.list ((["joined", "behind right"] : List Str).map PyData.str)) := dl1
      walk_at "go"
      refine g_iteD (fun a1 => ?_) (fun a1 => ?_)
      · have hp : p = .joined ∨ p = .bright := by
          simp only [List.mem_cons, List.not_mem_nil, or_false] at a1
          exact a1.elim (fun z => .inl (pJ.mp z)) fun z => .inr (pBR.mp z)
        walk_at "go"
        refine al fun l2 hl2 => ?_
        generalize hH9 : upd H8 l2 _ = H9
        obtain ⟨e9, dl2⟩ := new_l (W := W) hH9 hl2 (by walk_at "dfs") (by walk_at "wl")
        clear hH9
        have dl2 : Df W H9 (.ref l2) (.list ((["and", "or"] : List Str).map PyData.str)) := dl2
        walk_at "go"
        refine g_iteD (fun hT => ?_) (fun hT => ?_)
        · have hao : t = "and" ∨ t = "or" := by simpa using hT
          walk_at "go"
          refine al fun q hq => ?_
          generalize hH10 : upd H9 q _ = H10
          obtain ⟨e10, dq⟩ := new_t (W := W) hH10 hq (by walk_at "dfs") (by walk_at "wl")
          clear hH10
          have hx : nextP w t p c = (.atom, 0) := by unfold nextP; rw [if_neg n1, if_neg n2, if_neg n3, if_neg n4, if_neg n5, if_neg n6, if_neg n7, if_neg n8, if_neg n9, if_pos ⟨hp, hao⟩]
          exact k q H10 (((e07.tr e8 no0).tr e9 no0).tr e10 no0) (by rw [hx]; exact dq)
        · walk_at "go"
          exact hR _ _ ⟨rfl, (e07.tr e8 no0).tr e9 no0, fun z => hT (by simpa using z.2)⟩
      · walk_at "go"
        exact hR _ _ ⟨rfl, e07.tr e8 no0, fun z => a1 (by
          simp only [List.mem_cons, List.not_mem_nil, or_false]
          exact z.1.elim (fun z => .inl (pJ.mpr z)) fun z => .inr (pBR.mpr z))⟩
    rintro σ' H8 ⟨rfl, e08, n10⟩
    have w8 := hw.ed e08
    walk_at "go"
    refine al fun q hq => ?_
    generalize hH9 : upd H8 q _ = H9
    obtain ⟨e9, dq⟩ := new_t (W := W) hH9 hq (by walk_at "dfs") (by walk_at "wl")
    clear hH9
    have hx : nextP w t p c = (.bad, 0) := by unfold nextP; rw [if_neg n1, if_neg n2, if_neg n3, if_neg n4, if_neg n5, if_neg n6, if_neg n7, if_neg n8, if_neg n9, if_neg n10]
    exact k q H9 (e08.tr e9 no0) (by rw [hx]; exact dq)
end
section
variable {P : Program} {w : World} {K : PySem.W.Frag} {mg : Str → Option Value} {base : Heap}
theorem ok_law_wrong {f : Addr} {fd : FuncData} (F : FnP K "_law_wrong" "_law_wrong" s_law_wrong f fd) (T : Txt K mg) (C__law_next : Cal P w K mg base 2 "_law_next" ["_law_token", "_law_place", "_law_count", "_law_words"] (sp_law_next K))  : FnOk P w K mg base (L2.CX P w) 3 f fd ["_law_tokens", "_law_words"] (sp_law_wrong K) := by
  refine F.ok sc_law_wrong (fun vs H Q E h => ?_) (fun cdv A outer s H vs Q E hr h => ?_)
  · obtain ⟨W, p, wp, toks, w, rfl, _⟩ := h
    rfl
  · have nd := sc_law_wrong.nd
    have tk := takes_of (E := E) (X := (cxOf (L2.CX P w) P w K mg base ["_law_tokens", "_law_words", "_law_place", "_law_count", "_law_at", "_law_token"] "_law_wrong" (defScope s_law_wrong) f cdv A outer s H E)) rfl rfl rfl rfl
    have po : PassesOwn (model P w) (cxOf (L2.CX P w) P w K mg base ["_law_tokens", "_law_words", "_law_place", "_law_count", "_law_at", "_law_token"] "_law_wrong" (defScope s_law_wrong) f cdv A outer s H E).A (cxOf (L2.CX P w) P w K mg base ["_law_tokens", "_law_words", "_law_place", "_law_count", "_law_at", "_law_token"] "_law_wrong" (defScope s_law_wrong) f cdv A outer s H E).env (cxOf (L2.CX P w) P w K mg base ["_law_tokens", "_law_words", "_law_place", "_law_count", "_law_at", "_law_token"] "_law_wrong" (defScope s_law_wrong) f cdv A outer s H E).xe := passes_of (X := (cxOf (L2.CX P w) P w K mg base ["_law_tokens", "_law_words", "_law_place", "_law_count", "_law_at", "_law_token"] "_law_wrong" (defScope s_law_wrong) f cdv A outer s H E)) rfl
    obtain ⟨W, p, wp, toks, w, rfl, dp0, dw0, hw0, ht, k0⟩ := h
    refine ⟨_, (pss_cons (ps_asg (pe_tup (pa_cons pe_str (pa_cons pe_int pa_nil))) (q_gtup K 2 (pgs_cons (q_name 2 nd) (pgs_cons (q_name 3 nd) pgs_nil)))) (pss_cons (ps_for po rfl (q_enum K T.n_enumerate (pa_cons (pv 0) pa_nil)) (q_gtup K 2 (pgs_cons (q_name 4 nd) (pgs_cons (q_name 5 nd) pgs_nil))) (pss_cons (ps_asg (q_call C__law_next tk (hr.mono (by decide)) (pa_cons (pv 5) (pa_cons (pv 2) (pa_cons (pv 3) (pa_cons (pv 1) pa_nil))))) (q_gtup K 2 (pgs_cons (q_name 2 nd) (pgs_cons (q_name 3 nd) pgs_nil)))) (pss_one (ps_if (pt_cmpR (op_dEq K hr.units) (pv 2) pe_str (nomark _)) (pss_one (ps_ret (pv 4))) pss_nil)))) (pss_one (ps_ret (pe_ifExp (pt_cmpR (op_dIn K) (pv 2) (pe_lst (pa_cons pe_str (pa_cons pe_str pa_nil))) (by rfl)) (pe_un un_neg pe_int) (pe_callB (cl_len K) (by rfl) T.n_len bt_len (pa_cons (pv 0) pa_nil))))))), ?_⟩
    refine g_start (σ' := some _ :: some _ :: none :: none :: none :: none :: []) rfl ?_
    walk_at "go"
    refine al fun t0 ht0 => ?_
    generalize hHa : upd H t0 _ = Ha
    obtain ⟨ea, dt0⟩ := new_t (W := W) hHa ht0 (by walk_at "dfs") (by walk_at "wl")
    clear hHa
    walk_at "go"
    refine g_gtupd dt0 rfl fun xs hxs => ?_
    obtain rfl := cellsSI hxs
    have dp : Df W Ha (.ref p) (.list (toks.map PyData.str)) := dp0.ed ea no0
    have dw := dw0.ed ea no0
    have hw := hw0.ed ea
    have k : ∀ H', Ed [] Ha H' → Q (.int (wrI w toks)) H' := fun H' e => k0 H' (ea.tr e no0)
    clear dp0 dw0 hw0 k0
    walk_at "go"
    refine lp_en dp (fun i σ' H' => ∃ (pl : Pl) (c : Nat) (u v : Option V), σ' = [some (.ref p), some (.ref wp), some (.str (plS pl)), some (.int (c : Nat)), u, v] ∧ Ed [] Ha H' ∧ RP w toks .atom 0 0 = RP w toks pl c i ∧ i ≤ toks.length) ⟨.atom, 0, _, _, rfl, Ed.refl, rfl, Nat.zero_le _⟩ (fun i σ' H' _ h => by
      obtain ⟨pl, c, u, v, _, h, _⟩ := h
      exact h.weak no0) hw ?_ ?_
    · rintro i x t d σ' H1 H2 hd ⟨pl, c, u, v, rfl, e1, hrp, hi⟩ e2 hsq hx
      obtain ⟨tok, htok, rfl⟩ := at_map hd
      obtain rfl := hx.isStr
      obtain ⟨hl, ha⟩ := ht tok (List.mem_of_getElem? htok)
      have hlt : i < toks.length := (List.getElem?_eq_some_iff.mp htok).1
      have hpk : pk toks i = tok := by
        have := pk_in hlt
        rw [htok] at this
        exact (Option.some.inj this).symm
      have e12 : Ed [] Ha H2 := e1.tr e2 no0
      walk_at "go"
      refine ⟨W, tok, pl, c, wp, w, rfl, dw.ed e12 no0, hw.ed e12, by omega, ha, fun q H3 e3 dq => ?_⟩
      walk_at "go"
      refine g_gtupd dq rfl fun xs hxs => ?_
      obtain rfl := cellsSI hxs
      walk_at "go"
      have hst := rp_step (w := w) (p := pl) (c := c) hlt
      rw [hpk] at hst
      refine g_iteD (fun hz => ?_) (fun hz => ?_)
      · have hb : (nextP w tok pl c).1 = .bad := plS_eq _ .bad hz
        rw [if_pos hb] at hst
        walk_at "go"
        have e : wrI w toks = (i : Nat) := by unfold wrI; rw [hrp, hst]
        have := k H3 (e12.tr e3 no0)
        rw [e] at this
        exact this
      · have hb : ¬ (nextP w tok pl c).1 = .bad := fun z => hz (by rw [z]; rfl)
        rw [if_neg hb] at hst
        walk_at "go"
        exact ⟨_, _, _, _, rfl, e12.tr e3 no0, hrp.trans hst, by omega⟩
    · rintro σ' H1 ⟨pl, c, u, v, rfl, e1, hrp, hi⟩
      walk_at "go"
      refine al fun l1 hl1 => ?_
      generalize hH2 : upd H1 l1 _ = H2
      obtain ⟨e2, dl1⟩ := new_l (W := W) hH2 hl1 (by walk_at "dfs") (by walk_at "wl")
      clear hH2
      have dl1 : Df W H2 (.ref l1) (.list ((["joined", "behind right"] : List Str).map PyData.str)) := dl1
      have dp2 : Df W H2 (.ref p) (.list (toks.map PyData.str)) := by walk_at "df"
      have hrp : RP w toks .atom 0 0 = if accP pl = true then none else some toks.length := by
        rw [hrp, List.length_map, rp_end (Nat.le_refl _)]
      have e12 : Ed [] Ha H2 := e1.tr e2 no0
      walk_at "go"
      refine g_iteD (fun a1 => ?_) (fun a1 => ?_)
      · have hp : accP pl = true := by
          simp only [List.mem_cons, List.not_mem_nil, or_false] at a1
          exact decide_eq_true (a1.elim (fun z => .inl (plS_eq _ .joined z)) fun z => .inr (plS_eq _ .bright z))
        walk_at "go"
        have e : wrI w toks = -1 := by unfold wrI; rw [hrp, if_pos hp]
        have := k H2 e12
        rw [e] at this
        exact this
      · have hp : ¬ accP pl = true := fun z => a1 (by
          simp only [List.mem_cons, List.not_mem_nil, or_false]
          have z := of_decide_eq_true z
          exact z.elim (fun z => .inl (by rw [z]; rfl)) fun z => .inr (by rw [z]; rfl))
        walk_at "go"
        have e : wrI w toks = (toks.length : Nat) := by unfold wrI; rw [hrp, if_neg hp]
        have := k H2 e12
        rw [e] at this
        rw [List.length_map]
        exact this
end
section
variable {P : Program} {w : World} {K : PySem.W.Frag} {mg : Str → Option Value} {base : Heap}
theorem ok_law_told {f : Addr} {fd : FuncData} (F : FnP K "_law_told" "_law_told" s_law_told f fd) (T : Txt K mg) (M_Condition : MkC P w K mg base 7 "Condition" (He.ga K "Condition") ["self", "text", "names", "handles", "requests"] (sp_Condition___init__ K))  : FnOk P w K mg base (L2.CX P w) 9 f fd ["_law_text", "_law_words"] (sp_law_told K) := by
  refine F.ok sc_law_told (fun vs H Q E h => ?_) (fun cdv A outer s H vs Q E hr h => ?_)
  · obtain ⟨W, text, wp, toks, w, rfl, _⟩ := h
    rfl
  · have nd := sc_law_told.nd
    have tk := takes_of (E := E) (X := (cxOf (L2.CX P w) P w K mg base ["_law_text", "_law_words", "_law_lists", "_law_name", "e"] "_law_told" (defScope s_law_told) f cdv A outer s H E)) rfl rfl rfl rfl
    have po : PassesOwn (model P w) (cxOf (L2.CX P w) P w K mg base ["_law_text", "_law_words", "_law_lists", "_law_name", "e"] "_law_told" (defScope s_law_told) f cdv A outer s H E).A (cxOf (L2.CX P w) P w K mg base ["_law_text", "_law_words", "_law_lists", "_law_name", "e"] "_law_told" (defScope s_law_told) f cdv A outer s H E).env (cxOf (L2.CX P w) P w K mg base ["_law_text", "_law_words", "_law_lists", "_law_name", "e"] "_law_told" (defScope s_law_told) f cdv A outer s H E).xe := passes_of (X := (cxOf (L2.CX P w) P w K mg base ["_law_text", "_law_words", "_law_lists", "_law_name", "e"] "_law_told" (defScope s_law_told) f cdv A outer s H E)) rfl
    obtain ⟨W, text, wp, toks, w, rfl, dw, hw, hok, htk, hl, k⟩ := h
    refine ⟨_, (pss_cons (ps_try_as (i := 4) rfl rfl nd rfl rfl ⟨rfl, by decide, Or.inl T.m_NowlaterError⟩ tk (fun W1 pn1 xe1 tk1 po1 => (pss_cons (ps_setLc (i := 2) (own := [("_law_name", 3)]) (tt := tYes) rfl nd rfl rfl (sw_true rfl rfl rfl (by decide +kernel)) (q_tupI K (pe_slice (sl_tupD K) (pv 1) (po_some pe_int) po_none)) (blkOk_by (own := [("_law_name", 3)]) (N := ["_law_text", "_law_words", "_law_lists", "_law_name", "e"]) (sc := defScope s_law_told) (by decide +kernel)) (fun _ _ _ _ _ => (q_name 3 nd)) (fun _ _ _ _ _ => pts_nil) (fun _ _ _ _ _ => (pe_ifExp (pt_cmpR (op_dNe K hr.units) (pv 3) pe_str (nomark _)) (pe_lst (pa_cons (pv 3) pa_nil)) (pe_lst pa_nil)))) (pss_one (ps_expr (q_make M_Condition tk1 (hr.mono (by decide)) (pa_cons (pv 0) (pa_cons (pe_callTy (cl_list K) (by rfl) T.n_list bt_list (pa_cons (pe_ix (ix_dyn K) (pv 1) pe_int (fun _ _ => rfl)) pa_nil)) (pa_cons (pe_ix (ix_dyn K) (pv 2) pe_int (fun _ _ => rfl)) (pa_cons (pe_ix (ix_dyn K) (pv 2) pe_int (fun _ _ => rfl)) pa_nil))))))))) (fun a1 oe1 cls1 d1 pn1 hz1 hf1 => (pss_cons (ps_if (PW.pt (pw_or (pt_not (q_truth K (pe_callB (cl_isX K hz1 hf1) (by rfl) T.n_isinstance bt_isinstance (pa_cons (pv 4) (pa_cons (q_glob T.g_BadCondition) pa_nil))))) (pw_or (q_truth K (pe_callB (cl_isX K hz1 hf1) (by rfl) T.n_isinstance bt_isinstance (pa_cons (pv 4) (pa_cons (q_glob T.g_BadSum) pa_nil)))) (pw_or1 (pt_not (q_truth K (pe_callB (cl_isX K hz1 hf1) (by rfl) T.n_isinstance bt_isinstance (pa_cons (pv 4) (pa_cons (q_bltn T.n_ValueError bt_ValueError) pa_nil))))))))) (pss_one (ps_ret (pe_un un_neg pe_int))) pss_nil) (pss_one (ps_ret (pe_xfD K hz1 hf1 (pv 4))))))) (pss_one (ps_ret (pe_un un_neg pe_int)))), ?_⟩
    refine g_start (σ' := some _ :: some _ :: none :: none :: none :: []) rfl ?_
    walk_at "go"
    refine g_slT dw hw (fun z => absurd z.1 (by show ¬ ((1 : Nat) = 0); decide)) fun sl H1 hsl e1 dsl => ?_
    have dsl : Df W H1 (.ref sl) (.tuple ([w.hd, w.rq].map PyData.str)) := dsl
    have w1 := hw.ed e1
    walk_at "go"
    intro D hD
    refine lc_dt (by walk_at "wipe") (U := []) (W := W) dsl (by rw [sizeLine_eq]; exact Nat.le_of_ble_eq_true rfl) hD w1 no0 (fun i acc => acc = ([w.hd, w.rq].take i).map oneD) (fun _ => True) (fun _ _ _ _ => trivial) trivial rfl ?_ ?_
    · rintro i x d acc H2 R N hd hacc _ e2 w2 hx yes no
      obtain ⟨s, hs, rfl⟩ := at_map hd
      obtain rfl := hx.isStr
      walk_at "go"
      refine ⟨rfl, ?_⟩
      walk_at "go"
      refine g_iteN (fun hz => ?_) (fun hz => ?_)
      · walk_at "go"
        refine al fun l1 hl1 => ?_
        generalize hH3 : upd H2 l1 _ = H3
        obtain ⟨e3, dl1⟩ := new_l (W := (D :: W)) hH3 hl1 (by walk_at "dfs") (by walk_at "wl")
        clear hH3
        refine yes _ _ (oneD s) e3 ?_ trivial (by rw [hacc, take_snoc hs])
        unfold oneD oneL
        rw [if_neg hz]
        exact dl1
      · walk_at "go"
        refine al fun l1 hl1 => ?_
        generalize hH3 : upd H2 l1 _ = H3
        obtain ⟨e3, dl1⟩ := new_l (W := (D :: W)) hH3 hl1 (by walk_at "dfs") (by walk_at "wl")
        clear hH3
        refine yes _ _ (oneD s) e3 ?_ trivial (by rw [hacc, take_snoc hs])
        unfold oneD oneL
        rw [if_pos hz]
        exact dl1
    · rintro acc H2 rfl _ e2 dD _
      have dD : Df W H2 (.ref D) (.list [oneD w.hd, oneD w.rq]) := dD
      have e02 : Ed [] H H2 := e1.tr e2 no0
      have w2 := hw.ed e02
      walk_at "go"
      refine g_ixt (ds := [.list (w.names.map PyData.str), .str w.hd, .str w.rq]) (dw.ed e02 no0) rfl fun v hv => ?_
      obtain ⟨nm, rfl⟩ := Df.isRefL hv
      walk_at "go"
      refine g_listd hv w2 fun nl H3 hnl e3 dnl => ?_
      have dD3 := dD.ed e3 no0
      walk_at "go"
      refine g_ixd dD3 rfl fun v hv1 => ?_
      obtain ⟨h1, rfl⟩ := Df.isRefL hv1
      walk_at "go"
      refine g_ixd dD3 rfl fun v hv2 => ?_
      obtain ⟨h2, rfl⟩ := Df.isRefL hv2
      have hv1 : Df W H3 (.ref h1) (.list ((oneL w.hd).map PyData.str)) := hv1
      have hv2 : Df W H3 (.ref h2) (.list ((oneL w.rq).map PyData.str)) := hv2
      walk_at "go"
      intro x dx hx hdx hnx
      generalize hH4 : upd (upd H3 dx _) x _ = H4
      obtain ⟨e4, hx0⟩ := new_i hH4 hx hdx hnx
      clear hH4
      have e04 : Ed [] H H4 := (e02.tr e3 no0).tr e4 no0
      have hrun := initC_run (toks := toks) hok
      refine ⟨x, dx, nl, h1, h2, text, wds w toks, rfl, hx0, SqL.of (Df.strL (xs := w.names) (dnl.ed e4 no0)).2, SqL.of (Df.strL (hv1.ed e4 no0)).2, SqL.of (Df.strL (hv2.ed e4 no0)).2, htk.symm, hl, ?_, ?_⟩
      · intro e he d H5 s5 hd
        rw [he] at hrun
        have e5 : Ed [] H H5 := by
          refine ⟨fun a o _ ea => s5 a o (by
            simp only [List.mem_singleton]
            intro z
            have := e02.tr e3 no0
            have q := this.1 a o List.not_mem_nil ea
            rw [z, hx] at q
            cases q) (e04.1 a o List.not_mem_nil ea), fun a ha => ?_⟩
          cases ea : H a with
          | none => exact absurd ea ha
          | some o =>
            have q : H5 a = some o := s5 a o (by
              simp only [List.mem_singleton]
              intro z
              have q := (e02.tr e3 no0).1 a o List.not_mem_nil ea
              rw [z, hx] at q
              cases q) (e04.1 a o List.not_mem_nil ea)
            rw [q]
            exact fun z => nomatch z
        have ew : wrI w toks = (e : Nat) := by unfold wrI; rw [← hrun]
        have k := k H5 e5
        rw [ew] at k
        refine ⟨true, T.x_exm, fun _ a1 ha1 => ?_, fun z => by cases z⟩
        walk_at "go"
        refine ⟨He.ga K "BadCondition", d, _, _, _, _, rfl, rfl, rfl, hd, T.x_c, ClsV.own _, T.x_k1, ?_⟩
        walk_at "go"
        refine ⟨He.ga K "BadCondition", d, _, _, _, _, rfl, rfl, rfl, hd, T.x_c, ClsV.own _, T.x_k2, ?_⟩
        walk_at "go"
        refine ⟨He.ga K "BadCondition", d, _, _, _, _, rfl, rfl, rfl, hd, T.x_c, ClsV.ty _, T.x_k3, ?_⟩
        walk_at "go"
        refine ⟨_, rfl, rfl, He.ga K "BadCondition", d, _, _, rfl, T.x_f, T.x_no, rfl, hd, rfl, ?_⟩
        exact k
      · intro ps he H5 s5 hC
        rw [he] at hrun
        refine ⟨rfl, ?_⟩
        have ew : wrI w toks = -1 := by unfold wrI; rw [← hrun]
        have e5 : Ed [] H3 H5 := by
          obtain ⟨dy, l, h1, h2⟩ := hC
          refine e4.tr (Ed.sx s5 fun a z => ?_) fun a z => .inr ?_
          · rw [List.mem_singleton.mp z, h1]; exact fun z => nomatch z
          · rw [List.mem_singleton.mp z]; exact hx
        have k := k H5 ((e02.tr e3 no0).tr e5 no0)
        rw [ew] at k
        walk_at "go"
        exact k
end
section
variable {P : Program} {w : World} {K : PySem.W.Frag} {mg : Str → Option Value} {base : Heap}
theorem ok_law_spoiled {f : Addr} {fd : FuncData} (F : FnP K "_law_spoiled" "_law_spoiled" s_law_spoiled f fd) (T : Txt K mg) (C__law_of : Cal P w K mg base 2 "_law_of" ["_law_bag", "_law_some"] (sp_law_of K)) (C__law_take : Cal P w K mg base 1 "_law_take" ["_law_bag", "_law_many"] (sp_law_take K))  : FnOk P w K mg base (L2.CX P w) 3 f fd ["_law_bag", "_law_tokens", "_law_words"] (sp_law_spoiled K) := by
  refine F.ok sc_law_spoiled (fun vs H Q E h => ?_) (fun cdv A outer s H vs Q E hr h => ?_)
  · obtain ⟨W, b, p, wp, toks, w, rfl, _⟩ := h
    rfl
  · have nd := sc_law_spoiled.nd
    have tk := takes_of (E := E) (X := (cxOf (L2.CX P w) P w K mg base ["_law_bag", "_law_tokens", "_law_words", "_law_odd", "_law_token", "_law_at", "_law_kind"] "_law_spoiled" (defScope s_law_spoiled) f cdv A outer s H E)) rfl rfl rfl rfl
    have po : PassesOwn (model P w) (cxOf (L2.CX P w) P w K mg base ["_law_bag", "_law_tokens", "_law_words", "_law_odd", "_law_token", "_law_at", "_law_kind"] "_law_spoiled" (defScope s_law_spoiled) f cdv A outer s H E).A (cxOf (L2.CX P w) P w K mg base ["_law_bag", "_law_tokens", "_law_words", "_law_odd", "_law_token", "_law_at", "_law_kind"] "_law_spoiled" (defScope s_law_spoiled) f cdv A outer s H E).env (cxOf (L2.CX P w) P w K mg base ["_law_bag", "_law_tokens", "_law_words", "_law_odd", "_law_token", "_law_at", "_law_kind"] "_law_spoiled" (defScope s_law_spoiled) f cdv A outer s H E).xe := passes_of (X := (cxOf (L2.CX P w) P w K mg base ["_law_bag", "_law_tokens", "_law_words", "_law_odd", "_law_token", "_law_at", "_law_kind"] "_law_spoiled" (defScope s_law_spoiled) f cdv A outer s H E)) rfl
    obtain ⟨W, b, p, wp, toks, w, rfl, hb, hbW, hw, dp, dw, htk, htl, ⟨hn1, hn2, ⟨hd1, hd2⟩, hr1, hr2⟩, k⟩ := h
    refine ⟨_, (pss_cons (q_set 3 nd (pe_lst (pa_cons pe_str (pa_cons pe_str (pa_cons pe_str (pa_cons pe_str (pa_cons pe_str (pa_cons pe_str (pa_cons pe_str (pa_cons pe_str (pa_cons pe_str (pa_cons pe_str (pa_cons pe_str (pa_cons pe_str (pa_cons pe_str (pa_cons pe_str (pa_cons pe_str (pa_cons pe_str pa_nil)))))))))))))))))) (pss_cons (q_set 4 nd (q_call C__law_of tk (hr.mono (by decide)) (pa_cons (pv 0) (pa_cons (pe_op op_dAdd (pe_op op_dAdd (pv 3) (pe_ix (ix_dyn K) (pv 2) pe_int (fun _ _ => rfl))) (pe_lst (pa_cons (pe_ix (ix_dyn K) (pv 2) pe_int (fun _ _ => rfl)) (pa_cons (pe_ix (ix_dyn K) (pv 2) pe_int (fun _ _ => rfl)) (pa_cons (pe_op op_dAdd (pe_ix (ix_dyn K) (pv 2) pe_int (fun _ _ => rfl)) pe_str) pa_nil))))) pa_nil)))) (pss_cons (q_set 5 nd (q_call C__law_take tk (hr.mono (by decide)) (pa_cons (pv 0) (pa_cons (pe_op op_dAdd (pe_callB (cl_len K) (by rfl) T.n_len bt_len (pa_cons (pv 1) pa_nil)) pe_int) pa_nil)))) (pss_cons (q_set 6 nd (q_call C__law_of tk (hr.mono (by decide)) (pa_cons (pv 0) (pa_cons (pe_lst (pa_cons pe_str (pa_cons pe_str (pa_cons pe_str pa_nil)))) pa_nil)))) (pss_cut (ps_if (pt_cmpR (op_dEq K hr.units) (pv 6) pe_str (nomark _)) (pss_one (ps_ret (pe_op op_dAdd (pe_op op_dAdd (pe_slice (sl_dyn K) (pv 1) po_none (po_some (pv 5))) (pe_lst (pa_cons (pv 4) pa_nil))) (pe_slice (sl_dyn K) (pv 1) (po_some (pv 5)) po_none)))) pss_nil) (pss_one (ps_ret (pe_op op_dAdd (pe_op op_dAdd (pe_slice (sl_dyn K) (pv 1) po_none (po_some (pv 5))) (pe_ifExp (pt_cmpR (op_dEq K hr.units) (pv 6) pe_str (nomark _)) (pe_lst (pa_cons (pv 4) pa_nil)) (pe_lst pa_nil))) (pe_slice (sl_dyn K) (pv 1) (po_some (pe_op op_dAdd (pv 5) pe_int)) po_none))))))))), ?_⟩
    refine g_start (σ' := some _ :: some _ :: some _ :: none :: none :: none :: none :: []) rfl ?_
    walk_at "go"
    refine al fun od hod => ?_
    generalize hH1 : upd H od _ = H1
    obtain ⟨e1, dod⟩ := new_l (W := W) hH1 hod (by walk_at "dfs") (by walk_at "wl")
    clear hH1
    have dod : Df W H1 (.ref od) (.list (odds.map PyData.str)) := dod
    walk_at "go"
    refine g_ixt (ds := [.list (w.names.map PyData.str), .str w.hd, .str w.rq]) (dw.ed e1 no0) rfl fun v hv => ?_
    obtain ⟨nm, rfl⟩ := Df.isRefL hv
    walk_at "go"
    refine g_addd dod hv (hw.ed e1) (by rw [List.length_map, List.length_map, sizeLine_eq]; show 16 + _ ≤ _; omega) fun l1 H2 hl1 e2 dl1 => ?_
    have dw2 : Df W H2 (.ref wp) (.tuple [.list (w.names.map PyData.str), .str w.hd, .str w.rq]) := (dw.ed e1 no0).ed e2 no0
    walk_at "go"
    refine g_ixt dw2 rfl fun v hv1 => ?_
    obtain rfl := hv1.isStr
    walk_at "go"
    refine g_ixt dw2 rfl fun v hv2 => ?_
    obtain rfl := hv2.isStr
    walk_at "go"
    refine g_ixt dw2 rfl fun v hv3 => ?_
    obtain rfl := hv3.isStr
    walk_at "go"
    refine g_add_s (by rw [sizeLine_eq, show (("a" : Str)).length = 1 from rfl]; omega) ?_
    walk_at "go"
    refine al fun l2 hl2 => ?_
    generalize hH3 : upd H2 l2 _ = H3
    obtain ⟨e3, dl2⟩ := new_l (W := W) hH3 hl2 (by walk_at "dfs") (by walk_at "wl")
    clear hH3
    walk_at "go"
    refine g_addd (by walk_at "df") dl2 (by walk_at "wl") (by rw [List.length_append, List.length_map, List.length_map, sizeLine_eq]; show 16 + _ + 3 ≤ _; omega) fun l3 H4 hl3 e4 dl3 => ?_
    walk_at "go"
    refine call_of (by walk_at "bag") dl3 hbW (by rw [List.length_append, List.length_append, List.length_map, List.length_map]; show 0 < 16 + _ + 3; omega) (by rw [List.length_append, List.length_append, List.length_map, List.length_map]; show 16 + _ + 3 < _; omega) fun v d H5 hd e5 hb5 dv => ?_
    obtain ⟨tk, rfl, htk1⟩ : ∃ tk, d = .str tk ∧ TokOk tk := by
      simp only [List.mem_append, List.mem_map, List.mem_cons, List.not_mem_nil, or_false] at hd
      rcases hd with (⟨s, hs, rfl⟩ | ⟨s, hs, rfl⟩) | rfl | rfl | rfl
      · exact ⟨s, rfl, odds_ok s hs⟩
      · exact ⟨s, rfl, hn1 s hs⟩
      · exact ⟨_, rfl, hd2, by omega⟩
      · exact ⟨_, rfl, hr2, by omega⟩
      · exact ⟨_, rfl, tokA hd2 hd1⟩
    obtain rfl := dv.isStr
    have e05 : Ed [b] H H5 := by walk_at "ed"
    have dp5 : Df W H5 (.ref p) (.list (toks.map PyData.str)) := dp.ed e05 (sub1 hbW)
    have w5 := hw.ed e05
    clear e1 e2 e3 e4 e5 dod dl1 dl2 dl3 dw2 hv
    walk_at "go"
    refine call_take hb5 (by omega) (by rw [List.length_map]; omega) fun at_ H6 a0 a1 e6 hb6 => ?_
    walk_at "go"
    refine al fun l4 hl4 => ?_
    generalize hH7 : upd H6 l4 _ = H7
    obtain ⟨e7, dl4⟩ := new_l (W := W) hH7 hl4 (by walk_at "dfs") (by walk_at "wl")
    clear hH7
    walk_at "go"
    refine call_ofC (by walk_at "bag") dl4 hbW fun v d H8 hd e8 hb8 dv => ?_
    obtain ⟨kd, rfl⟩ : ∃ kd : Str, d = .str kd := by
      simp only [List.mem_cons, List.not_mem_nil, or_false] at hd
      rcases hd with rfl | rfl | rfl <;> exact ⟨_, rfl⟩
    obtain rfl := dv.isStr
    have e08 : Ed [b] H H8 := by walk_at "ed"
    have dp8 : Df W H8 (.ref p) (.list (toks.map PyData.str)) := dp.ed e08 (sub1 hbW)
    have w8 := hw.ed e08
    clear e05 e6 e7 e8 dl4 dp5 w5
    have fin : ∀ (q : Addr) (ts ms us : List Str) (H' : Hp), Ed [] H8 H' → Df W H' (.ref q) (.list (ts.map PyData.str ++ ms.map PyData.str ++ us.map PyData.str)) → (∀ t ∈ ts, t ∈ toks) → ts.length ≤ toks.length → (∀ t ∈ us, t ∈ toks) → us.length ≤ toks.length → (∀ t ∈ ms, TokOk t) → ms.length ≤ 1 → Q (.ref q) H' := fun q ts ms us H' e dq h1 h2 h3 h4 h5 h6 => by
      refine k q (ts ++ ms ++ us) H' (e08.tr e no0) (hb8.ed e List.not_mem_nil) (by rw [List.map_append, List.map_append]; exact dq) (fun t ht => ?_) (by rw [List.length_append, List.length_append]; omega)
      rcases List.mem_append.mp ht with ht | ht
      · rcases List.mem_append.mp ht with ht | ht
        · exact htk t (h1 t ht)
        · exact h5 t ht
      · exact htk t (h3 t ht)
    clear k hb8
    walk_at "go"
    refine g_cut (fun σ' H' => σ' = [some (.ref b), some (.ref p), some (.ref wp), some (.ref od), some (.str tk), some (.int at_), some (.str kd)] ∧ H8 = H') (fun R hR => ?_) ?_
    · walk_at "go"
      refine g_iteD (fun hz => ?_) (fun hz => ?_)
      · walk_at "go"
        refine g_sld dp8 w8 fun s1 H9 hs1 e9 ds1 => ?_
        obtain ⟨ts, et, t1, t2⟩ := cut_strs toks none (some at_)
        rw [et] at ds1
        walk_at "go"
        refine al fun l5 hl5 => ?_
        generalize hH10 : upd H9 l5 _ = H10
        obtain ⟨e10, dl5⟩ := new_l (W := W) hH10 hl5 (by walk_at "dfs") (by walk_at "wl")
        clear hH10
        have dl5 : Df W H10 (.ref l5) (.list ([tk].map PyData.str)) := dl5
        walk_at "go"
        refine g_addd (ds1.ed e10 no0) dl5 ((w8.ed e9).ed e10) (by rw [List.length_map, sizeLine_eq]; show _ + 1 ≤ _; omega) fun s2 H11 hs2 e11 ds2 => ?_
        have e811 : Ed [] H8 H11 := (e9.tr e10 no0).tr e11 no0
        walk_at "go"
        refine g_sld (dp8.ed e811 no0) (w8.ed e811) fun s3 H12 hs3 e12 ds3 => ?_
        obtain ⟨us, eu, u1, u2⟩ := cut_strs toks (some at_) none
        rw [eu] at ds3
        walk_at "go"
        refine g_addd (ds2.ed e12 no0) ds3 ((w8.ed e811).ed e12) (by rw [List.length_append, List.length_map, List.length_map, List.length_map, sizeLine_eq]; show _ + 1 + _ ≤ _; omega) fun s4 H13 hs4 e13 ds4 => ?_
        exact fin s4 ts [tk] us H13 ((e811.tr e12 no0).tr e13 no0) ds4 t1 t2 u1 u2 (fun t ht => by rw [List.mem_singleton.mp ht]; exact htk1) (Nat.le_refl _)
      · walk_at "go"
        exact hR _ _ ⟨rfl, rfl⟩
    rintro σ' _ ⟨rfl, rfl⟩
    walk_at "go"
    refine g_sld dp8 w8 fun s1 H9 hs1 e9 ds1 => ?_
    obtain ⟨ts, et, t1, t2⟩ := cut_strs toks none (some at_)
    rw [et] at ds1
    walk_at "go"
    refine g_iteD (fun hz => ?_) (fun hz => ?_)
    · walk_at "go"
      refine al fun l5 hl5 => ?_
      generalize hH10 : upd H9 l5 _ = H10
      obtain ⟨e10, dl5⟩ := new_l (W := W) hH10 hl5 (by walk_at "dfs") (by walk_at "wl")
      clear hH10
      have dl5 : Df W H10 (.ref l5) (.list ([tk].map PyData.str)) := dl5
      walk_at "go"
      refine g_addd (ds1.ed e10 no0) dl5 ((w8.ed e9).ed e10) (by rw [List.length_map, sizeLine_eq]; show _ + 1 ≤ _; omega) fun s2 H11 hs2 e11 ds2 => ?_
      have e811 : Ed [] H8 H11 := (e9.tr e10 no0).tr e11 no0
      walk_at "go"
      refine g_sld (dp8.ed e811 no0) (w8.ed e811) fun s3 H12 hs3 e12 ds3 => ?_
      obtain ⟨us, eu, u1, u2⟩ := cut_strs toks (some (at_ + 1)) none
      rw [eu] at ds3
      walk_at "go"
      refine g_addd (ds2.ed e12 no0) ds3 ((w8.ed e811).ed e12) (by rw [List.length_append, List.length_map, List.length_map, List.length_map, sizeLine_eq]; show _ + 1 + _ ≤ _; omega) fun s4 H13 hs4 e13 ds4 => ?_
      exact fin s4 ts [tk] us H13 ((e811.tr e12 no0).tr e13 no0) ds4 t1 t2 u1 u2 (fun t ht => by rw [List.mem_singleton.mp ht]; exact htk1) (Nat.le_refl _)
    · walk_at "go"
      refine al fun l5 hl5 => ?_
      generalize hH10 : upd H9 l5 _ = H10
      obtain ⟨e10, dl5⟩ := new_l (W := W) hH10 hl5 (by walk_at "dfs") (by walk_at "wl")
      clear hH10
      have dl5 : Df W H10 (.ref l5) (.list (([] : List Str).map PyData.str)) := dl5
      walk_at "go"
      refine g_addd (ds1.ed e10 no0) dl5 ((w8.ed e9).ed e10) (by rw [List.length_map, sizeLine_eq]; show _ + 0 ≤ _; omega) fun s2 H11 hs2 e11 ds2 => ?_
      have e811 : Ed [] H8 H11 := (e9.tr e10 no0).tr e11 no0
      walk_at "go"
      refine g_sld (dp8.ed e811 no0) (w8.ed e811) fun s3 H12 hs3 e12 ds3 => ?_
      obtain ⟨us, eu, u1, u2⟩ := cut_strs toks (some (at_ + 1)) none
      rw [eu] at ds3
      walk_at "go"
      refine g_addd (ds2.ed e12 no0) ds3 ((w8.ed e811).ed e12) (by rw [List.length_append, List.length_map, List.length_map, List.length_map, sizeLine_eq]; show _ + 0 + _ ≤ _; omega) fun s4 H13 hs4 e13 ds4 => ?_
      exact fin s4 ts [] us H13 ((e811.tr e12 no0).tr e13 no0) ds4 t1 t2 u1 u2 (fun t ht => absurd ht List.not_mem_nil) (Nat.zero_le _)
end
section
variable {P : Program} {w : World} {K : PySem.W.Frag} {mg : Str → Option Value} {base : Heap}
theorem ok_law {f : Addr} {fd : FuncData} (F : FnP K "law" "law" s_law f fd) (T : Txt K mg) (C__law_condition : Cal P w K mg base 5 "_law_condition" ["_law_bag", "_law_names_here", "_law_handles", "_law_requests", "_law_most"] (sp_law_condition K)) (C__law_condition_text : Cal P w K mg base 3 "_law_condition_text" ["_law_parts"] (sp_law_condition_text K)) (C__law_names : Cal P w K mg base 3 "_law_names" ["_law_bag", "_law_many"] (sp_law_names K)) (C__law_of : Cal P w K mg base 2 "_law_of" ["_law_bag", "_law_some"] (sp_law_of K)) (C__law_seed : Cal P w K mg base 1 "_law_seed" ["_law_script", "_law_at"] (sp_law_seed K)) (C__law_spoiled : Cal P w K mg base 3 "_law_spoiled" ["_law_bag", "_law_tokens", "_law_words"] (sp_law_spoiled K)) (C__law_take : Cal P w K mg base 1 "_law_take" ["_law_bag", "_law_many"] (sp_law_take K)) (C__law_told : Cal P w K mg base 9 "_law_told" ["_law_text", "_law_words"] (sp_law_told K)) (C__law_wrong : Cal P w K mg base 3 "_law_wrong" ["_law_tokens", "_law_words"] (sp_law_wrong K))  : FnOk P w K mg base (L2.CX P w) 10 f fd ["_law_script"] (sp_law K) := by
  refine F.ok sc_law (fun vs H Q E h => ?_) (fun cdv A outer s H vs Q E hr h => ?_)
  · obtain ⟨a, ns, rfl, _⟩ := h
    rfl
  · have nd := sc_law.nd
    have tk := takes_of (E := E) (X := (cxOf (L2.CX P w) P w K mg base ["_law_script", "_law_at", "_law_bag", "_law_drawn", "_law_words", "_law_parts", "_law_tokens", "_law_turn", "_law_many", "_law_each", "_law_told_here", "_law_begin"] "law" (defScope s_law) f cdv A outer s H E)) rfl rfl rfl rfl
    have po : PassesOwn (model P w) (cxOf (L2.CX P w) P w K mg base ["_law_script", "_law_at", "_law_bag", "_law_drawn", "_law_words", "_law_parts", "_law_tokens", "_law_turn", "_law_many", "_law_each", "_law_told_here", "_law_begin"] "law" (defScope s_law) f cdv A outer s H E).A (cxOf (L2.CX P w) P w K mg base ["_law_script", "_law_at", "_law_bag", "_law_drawn", "_law_words", "_law_parts", "_law_tokens", "_law_turn", "_law_many", "_law_each", "_law_told_here", "_law_begin"] "law" (defScope s_law) f cdv A outer s H E).env (cxOf (L2.CX P w) P w K mg base ["_law_script", "_law_at", "_law_bag", "_law_drawn", "_law_words", "_law_parts", "_law_tokens", "_law_turn", "_law_many", "_law_each", "_law_told_here", "_law_begin"] "law" (defScope s_law) f cdv A outer s H E).xe := passes_of (X := (cxOf (L2.CX P w) P w K mg base ["_law_script", "_law_at", "_law_bag", "_law_drawn", "_law_words", "_law_parts", "_law_tokens", "_law_turn", "_law_many", "_law_each", "_law_told_here", "_law_begin"] "law" (defScope s_law) f cdv A outer s H E)) rfl
    obtain ⟨a, ns, rfl, hS, hl, hbits, k⟩ := h
    refine ⟨_, (pss_cons (ps_for po rfl (pi_range1 rfl T.n_range (pa_cons (pe_callB (cl_max rfl) (by rfl) T.n_max bt_max (pa_cons pe_int (pa_cons (pe_callB (cl_min rfl) (by rfl) T.n_min bt_min (pa_cons pe_int (pa_cons (pe_callB (cl_len K) (by rfl) T.n_len bt_len (pa_cons (pv 0) pa_nil)) pa_nil))) pa_nil))) pa_nil)) (q_name 1 nd) (pss_cons (q_set 2 nd (q_call C__law_seed tk (hr.mono (by decide)) (pa_cons (pv 0) (pa_cons (pv 1) pa_nil)))) (pss_cons (q_set 3 nd (q_call C__law_names tk (hr.mono (by decide)) (pa_cons (pv 2) (pa_cons pe_int pa_nil)))) (pss_cons (q_set 4 nd (pe_tup (pa_cons (pe_slice (sl_dyn K) (pv 3) po_none (po_some pe_int)) (pa_cons (pe_ix (ix_dyn K) (pv 3) pe_int (fun _ _ => rfl)) (pa_cons (pe_ix (ix_dyn K) (pv 3) pe_int (fun _ _ => rfl)) pa_nil))))) (pss_cons (q_set 5 nd (q_call C__law_condition tk (hr.mono (by decide)) (pa_cons (pv 2) (pa_cons (pe_slice (sl_dyn K) (pv 3) po_none (po_some pe_int)) (pa_cons (pe_slice (sl_dyn K) (pv 3) (po_some pe_int) (po_some pe_int)) (pa_cons (pe_slice (sl_dyn K) (pv 3) (po_some pe_int) po_none) (pa_cons pe_int pa_nil))))))) (pss_cons (q_set 6 nd (q_bm K PySem.F.plainAttrs_str PySem.F.slot_str_split PySem.F.type_str_split m_split (q_call C__law_condition_text tk (hr.mono (by decide)) (pa_cons (pv 5) pa_nil)) (pa_cons pe_str pa_nil))) (pss_cons (ps_for po rfl (pi_range1 rfl T.n_range (pa_cons (q_call C__law_of tk (hr.mono (by decide)) (pa_cons (pv 2) (pa_cons (pe_lst (pa_cons pe_int (pa_cons pe_int (pa_cons pe_int (pa_cons pe_int (pa_cons pe_int pa_nil)))))) pa_nil))) pa_nil)) (q_name 7 nd) (pss_one (q_set 6 nd (q_call C__law_spoiled tk (hr.mono (by decide)) (pa_cons (pv 2) (pa_cons (pv 6) (pa_cons (pv 4) pa_nil))))))) (pss_cut (q_set 6 nd (pe_ifExp (pt_cmpR (op_dEq K hr.units) (q_call C__law_take tk (hr.mono (by decide)) (pa_cons (pv 2) (pa_cons pe_int pa_nil))) pe_int (nomark _)) (pe_lst pa_nil) (pv 6))) (pss_cons (q_set 4 nd (pe_tup (pa_cons (pe_slice (sl_dyn K) (pv 3) po_none (po_some pe_int)) (pa_cons (q_call C__law_of tk (hr.mono (by decide)) (pa_cons (pv 2) (pa_cons (pe_lst (pa_cons (pe_ix (ix_dyn K) (pv 3) pe_int (fun _ _ => rfl)) (pa_cons (pe_ix (ix_dyn K) (pv 3) pe_int (fun _ _ => rfl)) (pa_cons pe_str pa_nil)))) pa_nil))) (pa_cons (q_call C__law_of tk (hr.mono (by decide)) (pa_cons (pv 2) (pa_cons (pe_lst (pa_cons (pe_ix (ix_dyn K) (pv 3) pe_int (fun _ _ => rfl)) (pa_cons (pe_ix (ix_dyn K) (pv 3) pe_int (fun _ _ => rfl)) (pa_cons pe_str pa_nil)))) pa_nil))) pa_nil))))) (pss_cut (ps_if (pt_cmpR (op_dEq K hr.units) (q_call C__law_take tk (hr.mono (by decide)) (pa_cons (pv 2) (pa_cons pe_int pa_nil))) pe_int (nomark _)) (pss_cons (q_set 8 nd (pe_lst (pa_cons (q_call C__law_of tk (hr.mono (by decide)) (pa_cons (pv 2) (pa_cons (pe_lst (pa_cons pe_int (pa_cons pe_int (pa_cons pe_int (pa_cons pe_int pa_nil))))) pa_nil))) (pa_cons (q_call C__law_of tk (hr.mono (by decide)) (pa_cons (pv 2) (pa_cons (pe_lst (pa_cons pe_int (pa_cons pe_int (pa_cons pe_int (pa_cons pe_int pa_nil))))) pa_nil))) pa_nil)))) (pss_one (q_set 6 nd (q_bm K PySem.F.plainAttrs_str PySem.F.slot_str_split PySem.F.type_str_split m_split (q_bm K PySem.F.plainAttrs_str PySem.F.slot_str_join PySem.F.type_str_join (m_join K) pe_str (pa_cons (pe_lc (own := [("_law_each", 9)]) (tt := tYes) rfl nd (q_list K (pv 8)) (blkOk_by (own := [("_law_each", 9)]) (N := ["_law_script", "_law_at", "_law_bag", "_law_drawn", "_law_words", "_law_parts", "_law_tokens", "_law_turn", "_law_many", "_law_each", "_law_told_here", "_law_begin"]) (sc := defScope s_law) (by decide +kernel)) (fun _ _ _ _ _ => (q_name 9 nd)) (fun _ _ _ _ _ => pts_nil) (fun _ _ _ _ _ => (q_bm K PySem.F.plainAttrs_str PySem.F.slot_str_join PySem.F.type_str_join (m_join K) pe_str (pa_cons (pe_op op_dMul (pe_lst (pa_cons pe_str pa_nil)) (pv 9)) pa_nil)))) pa_nil)) (pa_cons pe_str pa_nil))))) pss_nil) (pss_cons (q_set 10 nd (q_call C__law_told tk (hr.mono (by decide)) (pa_cons (q_bm K PySem.F.plainAttrs_str PySem.F.slot_str_join PySem.F.type_str_join (m_join K) pe_str (pa_cons (pv 6) pa_nil)) (pa_cons (pv 4) pa_nil)))) (pss_cut (ps_if (PW.pt (pw_or (q_truth K (pe_callB (cl_isinstance K) (by rfl) T.n_isinstance bt_isinstance (pa_cons (pv 10) (pa_cons (q_bltn T.n_bool bt_bool) pa_nil)))) (pw_or1 (pt_cmpR (op_dNe K hr.units) (pv 10) (q_call C__law_wrong tk (hr.mono (by decide)) (pa_cons (pv 6) (pa_cons (pv 4) pa_nil))) (nomark _))))) (pss_one (ps_ret pe_bl)) pss_nil) (pss_cons (q_set 11 nd (pe_slice (sl_dyn K) (pv 6) po_none (po_some (q_call C__law_take tk (hr.mono (by decide)) (pa_cons (pv 2) (pa_cons (pe_op op_dAdd (pe_callB (cl_len K) (by rfl) T.n_len bt_len (pa_cons (pv 6) pa_nil)) pe_int) pa_nil)))))) (pss_one (ps_if (pt_cmpR (op_dNe K hr.units) (q_call C__law_told tk (hr.mono (by decide)) (pa_cons (q_bm K PySem.F.plainAttrs_str PySem.F.slot_str_join PySem.F.type_str_join (m_join K) pe_str (pa_cons (pv 11) pa_nil)) (pa_cons (pv 4) pa_nil))) (q_call C__law_wrong tk (hr.mono (by decide)) (pa_cons (pv 11) (pa_cons (pv 4) pa_nil))) (nomark _)) (pss_one (ps_ret pe_bl)) pss_nil))))))))))))))) (pss_one (ps_ret pe_bl))), ?_⟩
    refine g_start (σ' := some _ :: none :: none :: none :: none :: none :: none :: none :: none :: none :: none :: none :: []) rfl ?_
    walk_at "go"
    refine lp_it walk_range (fun i σ' H' => ∃ u1 u2 u3 u4 u5 u6 u7 u8 u9 u10 u11 : Option V, σ' = [some (.ref a), u1, u2, u3, u4, u5, u6, u7, u8, u9, u10, u11] ∧ Ed [] H H') ⟨_, _, _, _, _, _, _, _, _, _, _, rfl, Ed.refl⟩ (fun _ _ _ _ _ => trivial) ?_ ?_
    · rintro i x σ' H1 H2 hi ⟨u1, u2, u3, u4, u5, u6, u7, u8, u9, u10, u11, rfl, e0⟩ ⟨rfl, rfl⟩
      walk_at "go"
      refine call_seed (sqL_same hS e0.same') (by omega) fun b H3 hb0 e1 hb => ?_
      walk_at "go"
      refine call_names (W := [b]) (many := 4) hb (by walk_at "wl") (by decide) rfl fun p f names H4 hp0 e2 hb4 hnm hlen ok => ?_
      obtain ⟨d0, d1, d2, d3, rfl⟩ := four_of hlen
      have t0 : Wd f 0 d0 := ok 0 _ rfl
      have t1 : Wd f 1 d1 := ok 1 _ rfl
      have t2 : Wd f 2 d2 := ok 2 _ rfl
      have t3 : Wd f 3 d3 := ok 3 _ rfl
      have tk : ∀ {i : Nat} {t : Str}, Wd f i t → TokOk t := fun h => ⟨h.tk, by have := h.len; omega⟩
      have e04 : Ed [] H H4 := by walk_at "ed"
      have w4 : Wl [b] H4 := by walk_at "wl"
      have hnm : Df [b] H4 (.ref p) (.list [.str d0, .str d1, .str d2, .str d3]) := hnm
      have hbH : H b = none := e0.free hb0
      clear e0 e1 e2 hb
      walk_at "go"
      refine g_sld hnm w4 fun s0 H5 hs0 e5 ds0 => ?_
      have hnm5 := hnm.ed e5 no0
      walk_at "go"
      refine g_ixd hnm5 rfl fun v hv => ?_
      obtain rfl := hv.isStr
      walk_at "go"
      refine g_ixd hnm5 rfl fun v hv => ?_
      obtain rfl := hv.isStr
      walk_at "go"
      have ds0 : Df [b] H5 (.ref s0) (.list ([d0, d1].map PyData.str)) := ds0
      refine al fun wp hwp => ?_
      generalize hH6 : upd H5 wp _ = H6
      obtain ⟨e6, dwp⟩ := new_t (W := [b]) hH6 hwp (by walk_at "dfs") (by walk_at "wl")
      clear hH6
      have dwp : Df [b] H6 (.ref wp) (wdD ⟨[d0, d1], d2, d3⟩) := dwp
      have hnm6 := hnm5.ed e6 no0
      have w6 : Wl [b] H6 := by walk_at "wl"
      walk_at "go"
      refine g_sld hnm6 w6 fun s1 H7 hs1 e7 ds1 => ?_
      have ds1 : Df [b] H7 (.ref s1) (.list ([d0, d1].map PyData.str)) := ds1
      walk_at "go"
      refine g_sld (hnm6.ed e7 no0) (w6.ed e7) fun s2 H8 hs2 e8 ds2 => ?_
      have ds2 : Df [b] H8 (.ref s2) (.list ([d2].map PyData.str)) := ds2
      walk_at "go"
      refine g_sld ((hnm6.ed e7 no0).ed e8 no0) ((w6.ed e7).ed e8) fun s3 H9 hs3 e9 ds3 => ?_
      have ds3 : Df [b] H9 (.ref s3) (.list ([d3].map PyData.str)) := ds3
      walk_at "go"
      have hb9 : Bag H9 b := by walk_at "bag"
      refine ⟨[b], b, s1, s2, s3, [d0, d1], [d2], [d3], 2, rfl, hb9, by walk_at "mem", by walk_at "wl", by walk_at "df", by walk_at "df", ds3, Nat.le_of_ble_eq_true rfl, Nat.le_of_ble_eq_true rfl, Nat.le_of_ble_eq_true rfl, fun x hx => ?_, fun x hx => ?_, by decide, by decide, fun pp ps H10 hpp e10 hb10 dpp hcd => ?_⟩
      · rw [List.mem_singleton.mp hx]; exact sok_asc fun c hc => by have := t2.tk.2 c hc; omega
      · rw [List.mem_singleton.mp hx]; exact sok_asc fun c hc => by have := t3.tk.2 c hc; omega
      have w10 : Wl [b] H10 := by walk_at "wl"
      have tn : ∀ t ∈ [d0, d1], TokOk t ∧ t.length ≤ 8 := fun t ht => by
        simp only [List.mem_cons, List.not_mem_nil, or_false] at ht
        rcases ht with rfl | rfl
        · exact ⟨tk t0, t0.len⟩
        · exact ⟨tk t1, t1.len⟩
      have th : ∀ t ∈ [d2], TokOk t ∧ t.length ≤ 8 := fun t ht => by rw [List.mem_singleton.mp ht]; exact ⟨tk t2, t2.len⟩
      have tr : ∀ t ∈ [d3], TokOk t ∧ t.length ≤ 8 := fun t ht => by rw [List.mem_singleton.mp ht]; exact ⟨tk t3, t3.len⟩
      obtain ⟨c1, c2, c3⟩ := cond_tok (fun t h => (tn t h).1) (fun t h => (th t h).1) (fun t h => (tr t h).1) hcd
      walk_at "go"
      refine ⟨[b], pp, ps, rfl, dpp, w10, by have := hcd.2.1; omega, fun x hx => ⟨(hcd.2.2 x hx).1, by have := (hcd.2.2 x hx).2.1; omega, fun a ha => na_s (fun t h => (tn t h).2) (fun t h => (th t h).2) (fun t h => (tr t h).2) ((hcd.2.2 x hx).2.2 a ha)⟩, fun H11 e11 hcl => ?_⟩
      walk_at "go"
      rw [split_spc c3 fun t ht => (c1 t ht).1]
      intro tp htp
      generalize hH12 : upd H11 tp _ = H12
      obtain ⟨e12, dtp⟩ := new_s (W := [b]) hH12 htp (by walk_at "wl")
      clear hH12
      have hb12 : Bag H12 b := by walk_at "bag"
      have w12 : Wl [b] H12 := by walk_at "wl"
      have hnm12 : Df [b] H12 (.ref p) (.list [.str d0, .str d1, .str d2, .str d3]) := by walk_at "df"
      have dwp12 : Df [b] H12 (.ref wp) (wdD ⟨[d0, d1], d2, d3⟩) := by walk_at "df"
      have e012 : Ed [] H H12 := by walk_at "ed"
      clear e5 e6 e7 e8 e9 e10 e11 e12 ds0 ds1 ds2 ds3 dpp hnm hnm5 hnm6 dwp hb4 hb9 hb10 w4 w6 w10 e04
      generalize condT ps = toks0 at dtp c1 c2 c3
      clear hcd c3
      walk_at "go"
      refine al fun lt hlt => ?_
      generalize hH13 : upd H12 lt _ = H13
      obtain ⟨e13, dlt⟩ := new_l (W := [b]) hH13 hlt (by walk_at "dfs") (by walk_at "wl")
      clear hH13
      walk_at "go"
      refine call_ofC (W := [b]) (by walk_at "bag") dlt (by walk_at "mem") fun v d H14 hd e14 hb14 dv => ?_
      obtain ⟨n, rfl, n0, n2⟩ : ∃ n : Int, d = .int n ∧ 0 ≤ n ∧ n ≤ 2 := by
        simp only [List.mem_cons, List.not_mem_nil, or_false] at hd
        rcases hd with rfl | rfl | rfl | rfl | rfl <;> exact ⟨_, rfl, by decide, by decide⟩
      obtain rfl := dv.isInt
      have e1214 : Ed [b] H12 H14 := by clear e012; walk_at "ed"
      have dtp14 := dtp.ed e1214 subr
      clear e13 e14 dlt
      walk_at "go"
      refine lp_it walk_range (fun j σ' H' => ∃ (toks : List Str) (tp : Addr) (u5 u7 u8 u9 u10 u11 : Option V), σ' = [some (.ref a), some (.int (0 + (i : Int))), some (.ref b), some (.ref p), some (.ref wp), u5, some (.ref tp), u7, u8, u9, u10, u11] ∧ Ed [b] H12 H' ∧ Bag H' b ∧ Df [b] H' (.ref tp) (.list (toks.map PyData.str)) ∧ (∀ t ∈ toks, TokOk t) ∧ toks.length + 1 ≤ 101 * 2 ^ j) ⟨toks0, tp, _, _, _, _, _, _, rfl, e1214, hb14, dtp14, c1, by show _ ≤ 101 * 1; omega⟩ (fun _ _ _ _ _ => trivial) ?_ ?_
      · rintro j x σ' H15 H16 hj ⟨toks, tp, u5, u7, u8, u9, u10, u11, rfl, e15, hb15, dtp15, htk, hln⟩ ⟨rfl, rfl⟩
        have hj2 : j < 2 := by omega
        have hb2 : 2 ^ j ≤ 2 := by
          rcases (show j = 0 ∨ j = 1 by omega) with rfl | rfl <;> decide
        walk_at "go"
        refine ⟨[b], b, tp, wp, toks, ⟨[d0, d1], d2, d3⟩, rfl, hb15, by walk_at "mem", w12.ed e15, dtp15, dwp12.ed e15 subr, htk, by omega, ⟨fun t ht => (tn t ht).1, Nat.le_of_ble_eq_true rfl, ⟨t2.len, t2.tk⟩, t3.len, t3.tk⟩, fun q ts H17 e17 hb17 dq hts htl => ?_⟩
        walk_at "go"
        exact ⟨ts, q, _, _, _, _, _, _, rfl, e15.tr e17 (edvl subr), hb17, dq, hts, by rw [Nat.pow_succ]; omega⟩
      · rintro σ' H15 ⟨toks, tp, u5, u7, u8, u9, u10, u11, rfl, e15, hb15, dtp15, htk, hln⟩
        have hln : toks.length ≤ 404 := by
          rcases (show n.toNat = 0 ∨ n.toNat = 1 ∨ n.toNat = 2 by omega) with q | q | q <;> rw [q] at hln <;> omega
        have e015 : Ed [] H H15 := e012.tr e15 (edv1 (.inr hbH))
        walk_at "go"
        refine g_cut (fun σ' H' => ∃ (toks : List Str) (tp : Addr) (u5 u7 u8 u9 u10 u11 : Option V), σ' = [some (.ref a), some (.int (0 + (i : Int))), some (.ref b), some (.ref p), some (.ref wp), u5, some (.ref tp), u7, u8, u9, u10, u11] ∧ Ed [b] H12 H' ∧ Bag H' b ∧ Df [b] H' (.ref tp) (.list (toks.map PyData.str)) ∧ (∀ t ∈ toks, TokOk t) ∧ toks.length ≤ 404) (fun R hR => ?_) ?_
        · walk_at "go"
          refine call_take hb15 (by decide) (by decide) fun d H16 d0' d1' e16 hb16 => ?_
          walk_at "go"
          refine g_iteD (fun hz => ?_) (fun hz => ?_)
          · walk_at "go"
            refine al fun l1 hl1 => ?_
            generalize hH17 : upd H16 l1 _ = H17
            obtain ⟨e17, dl1⟩ := new_l (W := [b]) hH17 hl1 (by walk_at "dfs") (by walk_at "wl")
            clear hH17
            walk_at "go"
            exact hR _ _ ⟨[], l1, _, _, _, _, _, _, rfl, (e15.tr e16 (edvl subr)).tr e17 no0, by walk_at "bag", dl1, fun t ht => absurd ht List.not_mem_nil, Nat.zero_le _⟩
          · walk_at "go"
            exact hR _ _ ⟨toks, tp, _, _, _, _, _, _, rfl, e15.tr e16 (edvl subr), hb16, dtp15.ed e16 subr, htk, hln⟩
        clear e15 e015 hb15 dtp15 htk hln
        rintro σ' H16 ⟨toks, tp, u5, u7, u8, u9, u10, u11, rfl, e16, hb16, dtp16, htk, hln⟩
        have w16 := w12.ed e16
        have hnm16 := hnm12.ed e16 subr
        walk_at "go"
        refine g_sld hnm16 w16 fun s0 H17 hs0 e17 ds0 => ?_
        have ds0 : Df [b] H17 (.ref s0) (.list ([d0, d1].map PyData.str)) := ds0
        have hnm17 := hnm16.ed e17 no0
        walk_at "go"
        refine g_ixd hnm17 rfl fun v hv => ?_
        obtain rfl := hv.isStr
        walk_at "go"
        refine g_ixd hnm17 rfl fun v hv => ?_
        obtain rfl := hv.isStr
        walk_at "go"
        refine al fun l1 hl1 => ?_
        generalize hH18 : upd H17 l1 _ = H18
        obtain ⟨e18, dl1⟩ := new_l (W := [b]) hH18 hl1 (by walk_at "dfs") (by walk_at "wl")
        clear hH18
        walk_at "go"
        refine call_ofC (W := [b]) (by walk_at "bag") dl1 (by walk_at "mem") fun v d H19 hd e19 hb19 dv => ?_
        obtain ⟨hw', rfl, hhw⟩ : ∃ s : Str, d = .str s ∧ (s = d2 ∨ s = "") := by
          simp only [List.mem_cons, List.not_mem_nil, or_false] at hd
          rcases hd with rfl | rfl | rfl
          · exact ⟨_, rfl, .inl rfl⟩
          · exact ⟨_, rfl, .inl rfl⟩
          · exact ⟨_, rfl, .inr rfl⟩
        obtain rfl := dv.isStr
        have hnm19 : Df [b] H19 (.ref p) (.list [.str d0, .str d1, .str d2, .str d3]) := by walk_at "df"
        walk_at "go"
        refine g_ixd hnm19 rfl fun v hv => ?_
        obtain rfl := hv.isStr
        walk_at "go"
        refine g_ixd hnm19 rfl fun v hv => ?_
        obtain rfl := hv.isStr
        walk_at "go"
        refine al fun l2 hl2 => ?_
        generalize hH20 : upd H19 l2 _ = H20
        obtain ⟨e20, dl2⟩ := new_l (W := [b]) hH20 hl2 (by walk_at "dfs") (by walk_at "wl")
        clear hH20
        walk_at "go"
        refine call_ofC (W := [b]) (by walk_at "bag") dl2 (by walk_at "mem") fun v d H21 hd e21 hb21 dv => ?_
        obtain ⟨rw', rfl, hrw⟩ : ∃ s : Str, d = .str s ∧ (s = d3 ∨ s = "") := by
          simp only [List.mem_cons, List.not_mem_nil, or_false] at hd
          rcases hd with rfl | rfl | rfl
          · exact ⟨_, rfl, .inl rfl⟩
          · exact ⟨_, rfl, .inl rfl⟩
          · exact ⟨_, rfl, .inr rfl⟩
        obtain rfl := dv.isStr
        walk_at "go"
        refine al fun wq hwq => ?_
        generalize hH22 : upd H21 wq _ = H22
        obtain ⟨e22, dwq⟩ := new_t (W := [b]) hH22 hwq (by walk_at "dfs") (by walk_at "wl")
        clear hH22
        have dwq : Df [b] H22 (.ref wq) (wdD ⟨[d0, d1], hw', rw'⟩) := dwq
        have hb22 : Bag H22 b := by walk_at "bag"
        have e1622 : Ed [b] H16 H22 := by walk_at "ed"
        have dtp22 := dtp16.ed e1622 subr
        have e1222 : Ed [b] H12 H22 := e16.tr e1622 (edvl subr)
        have w22 := w12.ed e1222
        have wok : WdOk ⟨[d0, d1], hw', rw'⟩ := fun t ht => by
          have ht : t ∈ [d0, d1] := ht
          simp only [List.mem_cons, List.not_mem_nil, or_false] at ht
          rcases ht with rfl | rfl
          · exact t0.nw
          · exact t1.nw
        clear e16 e17 e18 e19 e20 e21 e22 e1622 ds0 hnm16 hnm17 hnm19 dl1 dl2 hb16 hb19 hb21 dtp16 w16
        generalize (⟨[d0, d1], hw', rw'⟩ : Wds) = w at dwq wok
        walk_at "go"
        refine g_cut (fun σ' H' => ∃ (toks : List Str) (tp : Addr) (u4 u5 u7 u8 u9 u10 u11 : Option V), σ' = [some (.ref a), some (.int (0 + (i : Int))), some (.ref b), some (.ref p), some (.ref wq), u5, some (.ref tp), u7, u8, u9, u10, u11] ∧ Ed [b] H22 H' ∧ Bag H' b ∧ Df [b] H' (.ref tp) (.list (toks.map PyData.str)) ∧ (∀ t ∈ toks, TokOk t) ∧ toks.length ≤ 404) (fun R hR => ?_) ?_
        · walk_at "go"
          refine call_take hb22 (by decide) (by decide) fun d H23 d0' d1' e23 hb23 => ?_
          walk_at "go"
          refine g_iteD (fun hz => ?_) (fun hz => ?_)
          · walk_at "go"
            refine al fun m1 hm1 => ?_
            generalize hH24 : upd H23 m1 _ = H24
            obtain ⟨e24, dm1⟩ := new_l (W := [b]) hH24 hm1 (by walk_at "dfs") (by walk_at "wl")
            clear hH24
            walk_at "go"
            refine call_ofC (W := [b]) (by walk_at "bag") dm1 (by walk_at "mem") fun v dd H25 hdd e25 hb25 dv => ?_
            obtain ⟨n1, rfl, n10, n11⟩ : ∃ n : Int, dd = .int n ∧ 1 ≤ n ∧ n ≤ 7 := by
              simp only [List.mem_cons, List.not_mem_nil, or_false] at hdd
              rcases hdd with rfl | rfl | rfl | rfl <;> exact ⟨_, rfl, by decide, by decide⟩
            obtain rfl := dv.isInt
            walk_at "go"
            refine al fun m2 hm2 => ?_
            generalize hH26 : upd H25 m2 _ = H26
            obtain ⟨e26, dm2⟩ := new_l (W := [b]) hH26 hm2 (by walk_at "dfs") (by walk_at "wl")
            clear hH26
            walk_at "go"
            refine call_ofC (W := [b]) (by walk_at "bag") dm2 (by walk_at "mem") fun v dd H27 hdd e27 hb27 dv => ?_
            obtain ⟨n2', rfl, n20, n21⟩ : ∃ n : Int, dd = .int n ∧ 1 ≤ n ∧ n ≤ 7 := by
              simp only [List.mem_cons, List.not_mem_nil, or_false] at hdd
              rcases hdd with rfl | rfl | rfl | rfl <;> exact ⟨_, rfl, by decide, by decide⟩
            obtain rfl := dv.isInt
            walk_at "go"
            refine al fun m3 hm3 => ?_
            generalize hH28 : upd H27 m3 _ = H28
            obtain ⟨e28, dm3⟩ := new_l (W := [b]) hH28 hm3 (by walk_at "dfs") (by walk_at "wl")
            clear hH28
            have dm3 : Df [b] H28 (.ref m3) (.list ([n1, n2'].map PyData.int)) := dm3
            have w28 : Wl [b] H28 := by walk_at "wl"
            have hb28 : Bag H28 b := by walk_at "bag"
            have e2228 : Ed [b] H22 H28 := by walk_at "ed"
            clear e23 e24 e25 e26 e27 e28 dm1 dm2 hb23 hb25 hb27
            walk_at "go"
            intro D hD
            refine lc_df (by walk_at "wipe") (U := []) (W := [b]) dm3 (by rw [sizeLine_eq]; exact Nat.le_of_ble_eq_true rfl) hD w28 no0 (fun j acc => acc = ([n1, n2'].take j).map fun n => PyData.str (spc (onesT n.toNat))) (fun _ => True) (fun _ _ _ _ => trivial) trivial rfl ?_ ?_
            · rintro j y dd acc H29 R2 N2 hdd hacc _ e29 w29 dy yes no
              obtain ⟨n, hn, rfl⟩ := at_map hdd
              have hn17 : 1 ≤ n ∧ n ≤ 7 := by
                have := List.mem_of_getElem? hn
                simp only [List.mem_cons, List.not_mem_nil, or_false] at this
                rcases this with rfl | rfl
                · exact ⟨n10, n11⟩
                · exact ⟨n20, n21⟩
              obtain rfl := dy.isInt
              walk_at "go"
              refine ⟨rfl, ?_⟩
              walk_at "go"
              refine al fun o1 ho1 => ?_
              generalize hH30 : upd H29 o1 _ = H30
              obtain ⟨e30, do1⟩ := new_l (W := [D, b]) hH30 ho1 (by walk_at "dfs") (by walk_at "wl")
              clear hH30
              walk_at "go"
              refine g_muld do1 (w29.ed e30) (by omega) (by omega) (by decide) fun o2 H31 ho2 e31 do2 => ?_
              have do2 : Df [D, b] H31 (.ref o2) (.list ((List.replicate n.toNat ("1" : Str)).map PyData.str)) := by
                have e : ∀ m : Nat, (List.replicate m [PyData.str "1"]).flatten = (List.replicate m ("1" : Str)).map PyData.str := fun m => by
                  induction m with
                  | zero => rfl
                  | succ m ih => rw [List.replicate_succ, List.replicate_succ, List.flatten_cons, ih]; rfl
                rw [← e]
                exact do2
              walk_at "go"
              refine g_joind do2 (by
                have := sum_len_le (B := 1) (toks := List.replicate n.toNat ("1" : Str)) fun t ht => by rw [(List.mem_replicate.mp ht).2]; decide
                rw [List.length_replicate] at *
                rw [show ((" - " : Str)).length = 3 from rfl]
                omega) ?_
              exact yes _ _ _ (e30.tr e31 no0) (.str _) trivial (by rw [hacc, take_snoc hn, join_txt, ones_text])
            · rintro acc H29 rfl _ e29 dD _
              have dD : Df [b] H29 (.ref D) (.list ([spc (onesT n1.toNat), spc (onesT n2'.toNat)].map PyData.str)) := dD
              have l1 := ones_len n1.toNat (by omega)
              have l2 := ones_len n2'.toNat (by omega)
              have hb29 : Bag H29 b := hb28.ed e29 List.not_mem_nil
              have w29 := w28.ed e29
              walk_at "go"
              refine g_joind dD (by show (spc (onesT n1.toNat)).length + ((spc (onesT n2'.toNat)).length + 0) + 2 * 3 ≤ _; omega) ?_
              rw [join_txt]
              have htx : Str.join " < " [spc (onesT n1.toNat), spc (onesT n2'.toNat)] = spc (sepT "<" onesT [n1.toNat, n2'.toNat]) := spc_sep (s3 := " < ") (sep := "<") (pr := onesT) (by decide +kernel) [n1.toNat, n2'.toNat] fun x hx => ones_ne (by
                simp only [List.mem_cons, List.not_mem_nil, or_false] at hx
                omega)
              obtain ⟨o1, o2, o3⟩ := ones_tok n1.toNat n2'.toNat (by omega) (by omega) (by omega) (by omega)
              have hlx : (spc (sepT "<" onesT [n1.toNat, n2'.toNat])).length ≤ 1000 := by
                rw [← htx]
                show (spc (onesT n1.toNat) ++ " < " ++ spc (onesT n2'.toNat)).length ≤ 1000
                rw [Str.length_append, Str.length_append, show ((" < " : Str)).length = 3 from rfl]
                omega
              walk_at "go"
              refine g_split (a := Str.join " < " [spc (onesT n1.toNat), spc (onesT n2'.toNat)]) (b := " ") rfl (by rw [htx, sizeLine_eq]; omega) ?_
              rw [htx, split_spc o2 fun t ht => (o1 t ht).1]
              intro tq htq
              generalize hH30 : upd H29 tq _ = H30
              obtain ⟨e30, dtq⟩ := new_s (W := [b]) hH30 htq (by walk_at "wl")
              clear hH30
              walk_at "go"
              exact hR _ _ ⟨_, tq, none, _, _, _, _, _, _, rfl, (e2228.tr e29 no0).tr e30 no0, hb29.ed e30 List.not_mem_nil, dtq, o1, o3⟩
          · walk_at "go"
            exact hR _ _ ⟨toks, tp, none, _, _, _, _, _, _, rfl, e23, hb23, dtp22.ed e23 subr, htk, hln⟩
        rintro σ' H23 ⟨toks, tp, u4, u5, u7, u8, u9, u10, u11, rfl, e23, hb23, dtp23, htk, hln⟩
        have e1223 := e1222.tr e23 (edvl subr)
        have e023 : Ed [] H H23 := e012.tr e1223 (edv1 (.inr hbH))
        have dwq23 := dwq.ed e23 subr
        have w23 := w12.ed e1223
        clear e1222 e1223 e23 hb22 dtp22 dwq w22 e012
        have hj : ∀ (s : Str) (ts : List Str), s.length ≤ 2 → ts.length ≤ 404 → (∀ t ∈ ts, TokOk t) → (ts.map (·.length)).sum + ts.length * s.length ≤ 16777216 ∧ (Str.join s ts).length ≤ 10000 := fun s ts h1 h2 h3 => by
          have e1 := sum_len_le (B := 20) fun t ht => (h3 t ht).2
          have e2 := join_len_le s 20 ts fun t ht => (h3 t ht).2
          have e3 : ts.length * s.length ≤ 404 * 2 := Nat.mul_le_mul h2 h1
          have e4 : ts.length * (20 + s.length) ≤ 404 * 22 := Nat.mul_le_mul h2 (by omega)
          omega
        walk_at "go"
        refine g_joind dtp23 (hj " " toks (by decide) hln htk).1 ?_
        rw [join_txt]
        have ws : ∀ (s : Str) (ts : List Str), (s = " " ∨ s = "  ") → (∀ t ∈ ts, TokOk t) → Txt.words (Str.join s ts) = ts := fun s ts hs h => by
          have hs2 : Bl s ∧ s.cps.toList ≠ [] := by
            rcases hs with rfl | rfl <;> exact ⟨by unfold Bl; decide, by decide⟩
          have := words_join0 (sep := s) (tail := "") hs2.1 hs2.2 (by unfold Bl; decide) fun t ht => (h t ht).1
          rwa [app_empty] at this
        walk_at "go"
        refine ⟨[b], _, wq, toks, w, rfl, dwq23, w23, wok, ws " " toks (.inl rfl) htk, ?_, fun H24 e24 => ?_⟩
        · exact (hj " " toks (by decide) hln htk).2
        have hb24 := hb23.ed e24 List.not_mem_nil
        have dtp24 := dtp23.ed e24 no0
        walk_at "go"
        refine g_uncut ?_
        walk_at "go"
        refine g_isi (b := false) (.ty _) (.base (.int _)) (by rfl) ?_
        walk_at "go"
        refine ⟨[b], tp, wq, toks, w, rfl, dtp24, dwq23.ed e24 no0, w23.ed e24, fun t ht => (htk t ht).asc, fun H25 e25 => ?_⟩
        walk_at "go"
        have hb25 := hb24.ed e25 List.not_mem_nil
        have dtp25 := dtp24.ed e25 no0
        have e025 : Ed [] H23 H25 := e24.tr e25 no0
        have dwq25 := dwq23.ed e025 no0
        have w25 := w23.ed e025
        walk_at "go"
        refine call_take hb25 (by rw [List.length_map]; omega) (by rw [List.length_map]; omega) fun at_ H26 a0 a1 e26 hb26 => ?_
        have dtp26 := dtp25.ed e26 subr
        walk_at "go"
        refine g_sld dtp26 (w25.ed e26) fun bg H27 hbg e27 dbg => ?_
        obtain ⟨ts, et, s1, s2⟩ := cut_strs toks none (some at_)
        rw [et] at dbg
        have htk2 : ∀ t ∈ ts, TokOk t := fun t ht => htk t (s1 t ht)
        have dwq27 := (dwq25.ed e26 subr).ed e27 no0
        have w27 := (w25.ed e26).ed e27
        have e0' : Ed [] H H27 := (((e023.tr e24 no0).tr e25 no0).tr e26 (edv1 (.inr hbH))).tr e27 no0
        walk_at "go"
        refine g_joind dbg (hj "  " ts (by decide) (by omega) htk2).1 ?_
        rw [join_txt]
        walk_at "go"
        refine ⟨[b], _, wq, ts, w, rfl, dwq27, w27, wok, ws "  " ts (.inr rfl) htk2, (hj "  " ts (by decide) (by omega) htk2).2, fun H28 e28 => ?_⟩
        walk_at "go"
        refine ⟨[b], bg, wq, ts, w, rfl, dbg.ed e28 no0, dwq27.ed e28 no0, w27.ed e28, fun t ht => (htk2 t ht).asc, fun H29 e29 => ?_⟩
        walk_at "go"
        refine ⟨_, _, _, _, _, _, _, _, _, _, _, rfl, (e0'.tr e28 no0).tr e29 no0⟩
    · rintro σ' H1 ⟨u1, u2, u3, u4, u5, u6, u7, u8, u9, u10, u11, rfl, e0⟩
      walk_at "go"
      exact k H1
end
def fxs : List Fx := [.fa (.glo "BadCondition"),
  .fa (.glo "BadSum"),
  .fa (.glo "Condition"),
  .fa (.int "MOST_TERMS" 5),
  .fa (.glo "NowlaterError"),
  .fa (.glo "Reader"),
  .fa (.glo "SIGNS"),
  .tup "SIGNS" [.str "=", .str "!=", .str "<", .str "<=", .str ">", .str ">="],
  .fa (.free "ValueError"),
  .fa (.glo "_law_atom"),
  .fa (.glo "_law_atom_text"),
  .fa (.glo "_law_condition"),
  .fa (.glo "_law_condition_text"),
  .fa (.glo "_law_is_number"),
  .fa (.glo "_law_names"),
  .fa (.glo "_law_next"),
  .fa (.glo "_law_of"),
  .fa (.glo "_law_seed"),
  .fa (.glo "_law_spoiled"),
  .fa (.glo "_law_sum_text"),
  .fa (.glo "_law_take"),
  .fa (.glo "_law_terms"),
  .fa (.glo "_law_told"),
  .fa (.glo "_law_wrong"),
  .fa (.free "abs"),
  .fa (.free "bool"),
  .fa (.free "enumerate"),
  .fa (.free "int"),
  .fa (.glo "is_number"),
  .fa (.free "isinstance"),
  .fa (.free "len"),
  .fa (.free "list"),
  .fa (.free "max"),
  .fa (.free "min"),
  .fa (.free "range"),
  .fa (.glo "read_sum"),
  .fa (.free "str"),
  .oex "BadCondition",
  .fnI "BadCondition",
  .fa (.noat "BadCondition" "at"),
  .fa (.cls "Reader"),
  .fa (.mkr "Reader"),
  .fa (.noat "Reader" "tokens"),
  .fa (.noat "Reader" "names"),
  .fa (.noat "Reader" "handles"),
  .fa (.noat "Reader" "requests"),
  .fa (.noat "Reader" "at"),
  .fa (.cls "Condition"),
  .fa (.mkr "Condition"),
  .fa (.noat "Condition" "parts"),
  .fa (.noat "Condition" "shown"),
  .fa (.meth "Reader" "peek"),
  .fnF "Reader" "peek",
  .fa (.meth "Reader" "take"),
  .fnF "Reader" "take",
  .fa (.meth "Reader" "sum_terms"),
  .fnF "Reader" "sum_terms",
  .fa (.meth "Reader" "read_atom"),
  .fnF "Reader" "read_atom",
  .fa (.meth "Reader" "read_part"),
  .fnF "Reader" "read_part",
  .fa (.meth "Reader" "read_condition"),
  .fnF "Reader" "read_condition",
  .fa (.glo "law"),
  .fa (.exm "BadCondition" "NowlaterError" true),
  .kit "BadCondition" (.own "BadCondition") true,
  .kit "BadCondition" (.own "BadSum") false,
  .kit "BadCondition" (.ty "ValueError") true,
  .excC "BadCondition",
  .xf "BadCondition"]
def d_BadCondition___init__ : He.DefD := ⟨("BadCondition", some "__init__"), "__init__", "BadCondition.__init__", defArgs s_BadCondition___init__, defBody s_BadCondition___init__, defScope s_BadCondition___init__, [], []⟩
def d_law_seed : He.DefD := ⟨("_law_seed", none), "_law_seed", "_law_seed", defArgs s_law_seed, defBody s_law_seed, defScope s_law_seed, [], []⟩
def d_law_take : He.DefD := ⟨("_law_take", none), "_law_take", "_law_take", defArgs s_law_take, defBody s_law_take, defScope s_law_take, [], []⟩
def d_law_of : He.DefD := ⟨("_law_of", none), "_law_of", "_law_of", defArgs s_law_of, defBody s_law_of, defScope s_law_of, [], []⟩
def d_is_number : He.DefD := ⟨("is_number", none), "is_number", "is_number", defArgs s_is_number, defBody s_is_number, defScope s_is_number, [], []⟩
def d_read_sum : He.DefD := ⟨("read_sum", none), "read_sum", "read_sum", defArgs s_read_sum, defBody s_read_sum, defScope s_read_sum, [], []⟩
def d_law_names : He.DefD := ⟨("_law_names", none), "_law_names", "_law_names", defArgs s_law_names, defBody s_law_names, defScope s_law_names, [], []⟩
def d_Reader_peek : He.DefD := ⟨("Reader", some "peek"), "peek", "Reader.peek", defArgs s_Reader_peek, defBody s_Reader_peek, defScope s_Reader_peek, [], []⟩
def d_Reader_take : He.DefD := ⟨("Reader", some "take"), "take", "Reader.take", defArgs s_Reader_take, defBody s_Reader_take, defScope s_Reader_take, [], []⟩
def d_Reader_sum_terms : He.DefD := ⟨("Reader", some "sum_terms"), "sum_terms", "Reader.sum_terms", defArgs s_Reader_sum_terms, defBody s_Reader_sum_terms, defScope s_Reader_sum_terms, [], []⟩
def d_Reader_read_atom : He.DefD := ⟨("Reader", some "read_atom"), "read_atom", "Reader.read_atom", defArgs s_Reader_read_atom, defBody s_Reader_read_atom, defScope s_Reader_read_atom, [], []⟩
def d_Reader_read_part : He.DefD := ⟨("Reader", some "read_part"), "read_part", "Reader.read_part", defArgs s_Reader_read_part, defBody s_Reader_read_part, defScope s_Reader_read_part, [], []⟩
def d_Reader_read_condition : He.DefD := ⟨("Reader", some "read_condition"), "read_condition", "Reader.read_condition", defArgs s_Reader_read_condition, defBody s_Reader_read_condition, defScope s_Reader_read_condition, [], []⟩
def d_Reader___init__ : He.DefD := ⟨("Reader", some "__init__"), "__init__", "Reader.__init__", defArgs s_Reader___init__, defBody s_Reader___init__, defScope s_Reader___init__, [], []⟩
def d_Condition___init__ : He.DefD := ⟨("Condition", some "__init__"), "__init__", "Condition.__init__", defArgs s_Condition___init__, defBody s_Condition___init__, defScope s_Condition___init__, [], []⟩
def d_law_terms : He.DefD := ⟨("_law_terms", none), "_law_terms", "_law_terms", defArgs s_law_terms, defBody s_law_terms, defScope s_law_terms, [], []⟩
def d_law_sum_text : He.DefD := ⟨("_law_sum_text", none), "_law_sum_text", "_law_sum_text", defArgs s_law_sum_text, defBody s_law_sum_text, defScope s_law_sum_text, [], []⟩
def d_law_atom : He.DefD := ⟨("_law_atom", none), "_law_atom", "_law_atom", defArgs s_law_atom, defBody s_law_atom, defScope s_law_atom, [], []⟩
def d_law_condition : He.DefD := ⟨("_law_condition", none), "_law_condition", "_law_condition", defArgs s_law_condition, defBody s_law_condition, defScope s_law_condition, [], []⟩
def d_law_atom_text : He.DefD := ⟨("_law_atom_text", none), "_law_atom_text", "_law_atom_text", defArgs s_law_atom_text, defBody s_law_atom_text, defScope s_law_atom_text, [], []⟩
def d_law_condition_text : He.DefD := ⟨("_law_condition_text", none), "_law_condition_text", "_law_condition_text", defArgs s_law_condition_text, defBody s_law_condition_text, defScope s_law_condition_text, [], []⟩
def d_law_is_number : He.DefD := ⟨("_law_is_number", none), "_law_is_number", "_law_is_number", defArgs s_law_is_number, defBody s_law_is_number, defScope s_law_is_number, [], []⟩
def d_law_next : He.DefD := ⟨("_law_next", none), "_law_next", "_law_next", defArgs s_law_next, defBody s_law_next, defScope s_law_next, [], []⟩
def d_law_wrong : He.DefD := ⟨("_law_wrong", none), "_law_wrong", "_law_wrong", defArgs s_law_wrong, defBody s_law_wrong, defScope s_law_wrong, [], []⟩
def d_law_told : He.DefD := ⟨("_law_told", none), "_law_told", "_law_told", defArgs s_law_told, defBody s_law_told, defScope s_law_told, [], []⟩
def d_law_spoiled : He.DefD := ⟨("_law_spoiled", none), "_law_spoiled", "_law_spoiled", defArgs s_law_spoiled, defBody s_law_spoiled, defScope s_law_spoiled, [], []⟩
def d_law : He.DefD := ⟨("law", none), "law", "law", defArgs s_law, defBody s_law, defScope s_law, [], []⟩
def fns : List He.DefD := [d_BadCondition___init__, d_law_seed, d_law_take, d_law_of, d_is_number, d_read_sum, d_law_names, d_Reader_peek, d_Reader_take, d_Reader_sum_terms, d_Reader_read_atom, d_Reader_read_part, d_Reader_read_condition, d_Reader___init__, d_Condition___init__, d_law_terms, d_law_sum_text, d_law_atom, d_law_condition, d_law_atom_text, d_law_condition_text, d_law_is_number, d_law_next, d_law_wrong, d_law_told, d_law_spoiled, d_law]
def tfs : List He.Defn := []
abbrev RR : PySem.W.OpenRow := PySem.W.OpenLaw.row PySem.Challenge.rw_nowlater_k04_conditions_refused
abbrev hk : PySem.W.Hook := He.hookX 5 [] fns [] tfs (fxB fxs)
def obH (s : PySem.W.SharedT) : He.AlX := He.obsX 5 [] fns [] tfs (fxB fxs) (HandSHeadRun.getT s)
theorem obH_eq (s : PySem.W.SharedT) : obH s = hk.obs s.abs := He.obsX_eq (HandSHeadRun.getT_eq s)
def loose0 : List PySem.Str := ["NowlaterError", "BadSum", "BadCondition", "SIGNS", "MOST_TERMS", "is_number", "sum_of", "read_sum", "Reader", "Condition", "atom_holds", "compares", "_law_seed", "_law_take", "_law_of", "_law_names", "_law_terms", "_law_sum_text", "_law_value", "_law_atom", "_law_condition", "_law_atom_text", "_law_condition_text", "_law_compared", "_law_atom_holds", "_law_holds", "_law_is_number", "_law_next", "_law_wrong", "_law_spoiled", "_law_told"]
abbrev loose : List PySem.Str := loose0
theorem run (w : World) : HandSHeadRun.RunEq RR (PySem.W.view RR.prog [34]) hk obH 6000 loose w := by
  intro os
  kernel_rfl
theorem facts {P : Program} {w : World} {K : PySem.W.Frag} {h : Heap} {mg : Str → Option Value} {f : Addr} (X : K.In h) (G : h.Ns mainGlobals mg) (hfa : mg ("law" : Str) = some (.ref f)) (S : He.SaysX [] fns [] tfs (fxB fxs) w h K) :
    ∃ fd : FuncData, (∀ (s : Shared) (v : Value), BindsTo s fd ⟨[v], []⟩ [("_law_script", v)]) ∧ ∀ base : Heap, K.In base → base.Ns mainGlobals mg → FnOk P w K mg base (L2.CX P w) 10 f fd ["_law_script"] (sp_law K) := by
  have c : fxB fxs K = true := S.more
  obtain ⟨fd_BadCondition___init__, F_BadCondition___init__⟩ := S.t.d.def_ 0 (d := d_BadCondition___init__) rfl
  obtain ⟨fd_law_seed, F_law_seed⟩ := S.t.d.def_ 1 (d := d_law_seed) rfl
  obtain ⟨fd_law_take, F_law_take⟩ := S.t.d.def_ 2 (d := d_law_take) rfl
  obtain ⟨fd_law_of, F_law_of⟩ := S.t.d.def_ 3 (d := d_law_of) rfl
  obtain ⟨fd_is_number, F_is_number⟩ := S.t.d.def_ 4 (d := d_is_number) rfl
  obtain ⟨fd_read_sum, F_read_sum⟩ := S.t.d.def_ 5 (d := d_read_sum) rfl
  obtain ⟨fd_law_names, F_law_names⟩ := S.t.d.def_ 6 (d := d_law_names) rfl
  obtain ⟨fd_Reader_peek, F_Reader_peek⟩ := S.t.d.def_ 7 (d := d_Reader_peek) rfl
  obtain ⟨fd_Reader_take, F_Reader_take⟩ := S.t.d.def_ 8 (d := d_Reader_take) rfl
  obtain ⟨fd_Reader_sum_terms, F_Reader_sum_terms⟩ := S.t.d.def_ 9 (d := d_Reader_sum_terms) rfl
  obtain ⟨fd_Reader_read_atom, F_Reader_read_atom⟩ := S.t.d.def_ 10 (d := d_Reader_read_atom) rfl
  obtain ⟨fd_Reader_read_part, F_Reader_read_part⟩ := S.t.d.def_ 11 (d := d_Reader_read_part) rfl
  obtain ⟨fd_Reader_read_condition, F_Reader_read_condition⟩ := S.t.d.def_ 12 (d := d_Reader_read_condition) rfl
  obtain ⟨fd_Reader___init__, F_Reader___init__⟩ := S.t.d.def_ 13 (d := d_Reader___init__) rfl
  obtain ⟨fd_Condition___init__, F_Condition___init__⟩ := S.t.d.def_ 14 (d := d_Condition___init__) rfl
  obtain ⟨fd_law_terms, F_law_terms⟩ := S.t.d.def_ 15 (d := d_law_terms) rfl
  obtain ⟨fd_law_sum_text, F_law_sum_text⟩ := S.t.d.def_ 16 (d := d_law_sum_text) rfl
  obtain ⟨fd_law_atom, F_law_atom⟩ := S.t.d.def_ 17 (d := d_law_atom) rfl
  obtain ⟨fd_law_condition, F_law_condition⟩ := S.t.d.def_ 18 (d := d_law_condition) rfl
  obtain ⟨fd_law_atom_text, F_law_atom_text⟩ := S.t.d.def_ 19 (d := d_law_atom_text) rfl
  obtain ⟨fd_law_condition_text, F_law_condition_text⟩ := S.t.d.def_ 20 (d := d_law_condition_text) rfl
  obtain ⟨fd_law_is_number, F_law_is_number⟩ := S.t.d.def_ 21 (d := d_law_is_number) rfl
  obtain ⟨fd_law_next, F_law_next⟩ := S.t.d.def_ 22 (d := d_law_next) rfl
  obtain ⟨fd_law_wrong, F_law_wrong⟩ := S.t.d.def_ 23 (d := d_law_wrong) rfl
  obtain ⟨fd_law_told, F_law_told⟩ := S.t.d.def_ 24 (d := d_law_told) rfl
  obtain ⟨fd_law_spoiled, F_law_spoiled⟩ := S.t.d.def_ 25 (d := d_law_spoiled) rfl
  obtain ⟨fd_law, F_law⟩ := S.t.d.def_ 26 (d := d_law) rfl
  have T : Txt K mg := ⟨fx_free X G c 8, fx_free X G c 24, fx_free X G c 25, fx_free X G c 26, fx_free X G c 27, fx_free X G c 29, fx_free X G c 30, fx_free X G c 31, fx_free X G c 32, fx_free X G c 33, fx_free X G c 34, fx_free X G c 36, fx_int X G c 3, ⟨_, fx_glo X G c 6, rfl⟩, fun H => fx_tup c 7 (H := H), ⟨_, fx_glo X G c 0, rfl⟩, fx_glo X G c 0, ⟨_, fx_glo X G c 1, rfl⟩, fx_glo X G c 1, ⟨_, fx_glo X G c 2, rfl⟩, fx_glo X G c 2, ⟨_, fx_glo X G c 4, rfl⟩, fx_glo X G c 4, ⟨_, fx_glo X G c 5, rfl⟩, fx_glo X G c 5, fx_cls c 47, fx_noat c 49, fx_noat c 50, fx_cls c 40, fx_noat c 42, fx_noat c 43, fx_noat c 44, fx_noat c 45, fx_noat c 46, fx_exm c 64, fx_kit c 65, fx_kit c 66, fx_kit c 67, fx_exc c 68, fx_xf c 69, fx_noat c 39⟩
  have e := hfa.symm.trans (fx_glo X G c 63)
  cases e
  have b_BadCondition___init__ := FunD.bindsN (ps := ["self", "at"]) F_BadCondition___init__ fun _ _ _ _ _ _ us hl => match us, hl with | [_, _], _ => rfl
  have b_law_seed := FunD.bindsN (ps := ["_law_script", "_law_at"]) F_law_seed fun _ _ _ _ _ _ us hl => match us, hl with | [_, _], _ => rfl
  have b_law_take := FunD.bindsN (ps := ["_law_bag", "_law_many"]) F_law_take fun _ _ _ _ _ _ us hl => match us, hl with | [_, _], _ => rfl
  have b_law_of := FunD.bindsN (ps := ["_law_bag", "_law_some"]) F_law_of fun _ _ _ _ _ _ us hl => match us, hl with | [_, _], _ => rfl
  have b_is_number := FunD.bindsN (ps := ["token"]) F_is_number fun _ _ _ _ _ _ us hl => match us, hl with | [_], _ => rfl
  have b_read_sum := FunD.bindsN (ps := ["tokens", "start", "names"]) F_read_sum fun _ _ _ _ _ _ us hl => match us, hl with | [_, _, _], _ => rfl
  have b_law_names := FunD.bindsN (ps := ["_law_bag", "_law_many"]) F_law_names fun _ _ _ _ _ _ us hl => match us, hl with | [_, _], _ => rfl
  have b_Reader_peek := FunD.bindsN (ps := ["self"]) F_Reader_peek fun _ _ _ _ _ _ us hl => match us, hl with | [_], _ => rfl
  have b_Reader_take := FunD.bindsN (ps := ["self", "allowed"]) F_Reader_take fun _ _ _ _ _ _ us hl => match us, hl with | [_, _], _ => rfl
  have b_Reader_sum_terms := FunD.bindsN (ps := ["self"]) F_Reader_sum_terms fun _ _ _ _ _ _ us hl => match us, hl with | [_], _ => rfl
  have b_Reader_read_atom := FunD.bindsN (ps := ["self"]) F_Reader_read_atom fun _ _ _ _ _ _ us hl => match us, hl with | [_], _ => rfl
  have b_Reader_read_part := FunD.bindsN (ps := ["self"]) F_Reader_read_part fun _ _ _ _ _ _ us hl => match us, hl with | [_], _ => rfl
  have b_Reader_read_condition := FunD.bindsN (ps := ["self"]) F_Reader_read_condition fun _ _ _ _ _ _ us hl => match us, hl with | [_], _ => rfl
  have b_Reader___init__ := FunD.bindsN (ps := ["self", "tokens", "names", "handles", "requests"]) F_Reader___init__ fun _ _ _ _ _ _ us hl => match us, hl with | [_, _, _, _, _], _ => rfl
  have b_Condition___init__ := FunD.bindsN (ps := ["self", "text", "names", "handles", "requests"]) F_Condition___init__ fun _ _ _ _ _ _ us hl => match us, hl with | [_, _, _, _, _], _ => rfl
  have b_law_terms := FunD.bindsN (ps := ["_law_bag", "_law_names_here", "_law_many"]) F_law_terms fun _ _ _ _ _ _ us hl => match us, hl with | [_, _, _], _ => rfl
  have b_law_sum_text := FunD.bindsN (ps := ["_law_terms_here"]) F_law_sum_text fun _ _ _ _ _ _ us hl => match us, hl with | [_], _ => rfl
  have b_law_atom := FunD.bindsN (ps := ["_law_bag", "_law_names_here", "_law_handles", "_law_requests"]) F_law_atom fun _ _ _ _ _ _ us hl => match us, hl with | [_, _, _, _], _ => rfl
  have b_law_condition := FunD.bindsN (ps := ["_law_bag", "_law_names_here", "_law_handles", "_law_requests", "_law_most"]) F_law_condition fun _ _ _ _ _ _ us hl => match us, hl with | [_, _, _, _, _], _ => rfl
  have b_law_atom_text := FunD.bindsN (ps := ["_law_atom_here"]) F_law_atom_text fun _ _ _ _ _ _ us hl => match us, hl with | [_], _ => rfl
  have b_law_condition_text := FunD.bindsN (ps := ["_law_parts"]) F_law_condition_text fun _ _ _ _ _ _ us hl => match us, hl with | [_], _ => rfl
  have b_law_is_number := FunD.bindsN (ps := ["_law_token"]) F_law_is_number fun _ _ _ _ _ _ us hl => match us, hl with | [_], _ => rfl
  have b_law_next := FunD.bindsN (ps := ["_law_token", "_law_place", "_law_count", "_law_words"]) F_law_next fun _ _ _ _ _ _ us hl => match us, hl with | [_, _, _, _], _ => rfl
  have b_law_wrong := FunD.bindsN (ps := ["_law_tokens", "_law_words"]) F_law_wrong fun _ _ _ _ _ _ us hl => match us, hl with | [_, _], _ => rfl
  have b_law_told := FunD.bindsN (ps := ["_law_text", "_law_words"]) F_law_told fun _ _ _ _ _ _ us hl => match us, hl with | [_, _], _ => rfl
  have b_law_spoiled := FunD.bindsN (ps := ["_law_bag", "_law_tokens", "_law_words"]) F_law_spoiled fun _ _ _ _ _ _ us hl => match us, hl with | [_, _, _], _ => rfl
  have b_law := FunD.bindsN (ps := ["_law_script"]) F_law fun _ _ _ _ _ _ us hl => match us, hl with | [_], _ => rfl
  have bA := FunD.bindsA (ps := ["_law_script"]) F_law fun _ _ _ _ _ _ us hl => match us, hl with | [_], _ => rfl
  refine ⟨fd_law, fun s v => bA s [v] rfl, fun base _ _ => ?_⟩
  have X_BadCondition : XC P w K mg base 1 "BadCondition" "at" (He.ga K "BadCondition") := ⟨fx_glo X G c 0, fx_oex c 37, fx_noat c 39, _, fd_BadCondition___init__, _, (fx_fnI c 38).1, (fx_fnI c 38).2, b_BadCondition___init__, ok_BadCondition___init__ F_BadCondition___init__ (fx_oex c 37) (fx_noat c 39)⟩
  have C__law_seed : Cal P w K mg base 1 "_law_seed" ["_law_script", "_law_at"] (sp_law_seed K) := ⟨_, fd_law_seed, fx_glo X G c 17, F_law_seed.kp, b_law_seed, ok_law_seed (P := P) (w := w) (base := base) F_law_seed T ⟩
  have C__law_take : Cal P w K mg base 1 "_law_take" ["_law_bag", "_law_many"] (sp_law_take K) := ⟨_, fd_law_take, fx_glo X G c 20, F_law_take.kp, b_law_take, ok_law_take (P := P) (w := w) (base := base) F_law_take T ⟩
  have C_is_number : Cal P w K mg base 1 "is_number" ["token"] (sp_is_number K) := ⟨_, fd_is_number, fx_glo X G c 28, F_is_number.kp, b_is_number, ok_is_number (P := P) (w := w) (base := base) F_is_number T ⟩
  have N_Reader_peek : MtC P w K mg base 1 (He.ga K "Reader") "peek" ["self"] (sp_Reader_peek K) := ⟨fx_cls c 40, _, fd_Reader_peek, fx_meth c 51, fx_fnF c 52, b_Reader_peek, ok_Reader_peek (P := P) (w := w) (base := base) F_Reader_peek T ⟩
  have M_Reader : MkC P w K mg base 1 "Reader" (He.ga K "Reader") ["self", "tokens", "names", "handles", "requests"] (sp_Reader___init__ K) := ⟨fx_glo X G c 5, _, fd_Reader___init__, fx_mkr c 41, b_Reader___init__, ok_Reader___init__ (P := P) (w := w) (base := base) F_Reader___init__ T ⟩
  have C__law_sum_text : Cal P w K mg base 1 "_law_sum_text" ["_law_terms_here"] (sp_law_sum_text K) := ⟨_, fd_law_sum_text, fx_glo X G c 19, F_law_sum_text.kp, b_law_sum_text, ok_law_sum_text (P := P) (w := w) (base := base) F_law_sum_text T ⟩
  have C__law_is_number : Cal P w K mg base 1 "_law_is_number" ["_law_token"] (sp_law_is_number K) := ⟨_, fd_law_is_number, fx_glo X G c 13, F_law_is_number.kp, b_law_is_number, ok_law_is_number (P := P) (w := w) (base := base) F_law_is_number T ⟩
  have C__law_of : Cal P w K mg base 2 "_law_of" ["_law_bag", "_law_some"] (sp_law_of K) := ⟨_, fd_law_of, fx_glo X G c 16, F_law_of.kp, b_law_of, ok_law_of (P := P) (w := w) (base := base) F_law_of T C__law_take⟩
  have C_read_sum : Cal P w K mg base 2 "read_sum" ["tokens", "start", "names"] (sp_read_sum K) := ⟨_, fd_read_sum, fx_glo X G c 35, F_read_sum.kp, b_read_sum, ok_read_sum (P := P) (w := w) (base := base) F_read_sum T C_is_number⟩
  have C__law_atom_text : Cal P w K mg base 2 "_law_atom_text" ["_law_atom_here"] (sp_law_atom_text K) := ⟨_, fd_law_atom_text, fx_glo X G c 10, F_law_atom_text.kp, b_law_atom_text, ok_law_atom_text (P := P) (w := w) (base := base) F_law_atom_text T C__law_sum_text⟩
  have C__law_next : Cal P w K mg base 2 "_law_next" ["_law_token", "_law_place", "_law_count", "_law_words"] (sp_law_next K) := ⟨_, fd_law_next, fx_glo X G c 15, F_law_next.kp, b_law_next, ok_law_next (P := P) (w := w) (base := base) F_law_next T C__law_is_number⟩
  have C__law_names : Cal P w K mg base 3 "_law_names" ["_law_bag", "_law_many"] (sp_law_names K) := ⟨_, fd_law_names, fx_glo X G c 14, F_law_names.kp, b_law_names, ok_law_names (P := P) (w := w) (base := base) F_law_names T C__law_of C__law_take⟩
  have N_Reader_take : MtC P w K mg base 3 (He.ga K "Reader") "take" ["self", "allowed"] (sp_Reader_take K) := ⟨fx_cls c 40, _, fd_Reader_take, fx_meth c 53, fx_fnF c 54, b_Reader_take, ok_Reader_take (P := P) (w := w) (base := base) F_Reader_take T N_Reader_peek X_BadCondition⟩
  have N_Reader_sum_terms : MtC P w K mg base 3 (He.ga K "Reader") "sum_terms" ["self"] (sp_Reader_sum_terms K) := ⟨fx_cls c 40, _, fd_Reader_sum_terms, fx_meth c 55, fx_fnF c 56, b_Reader_sum_terms, ok_Reader_sum_terms (P := P) (w := w) (base := base) F_Reader_sum_terms T C_read_sum X_BadCondition⟩
  have C__law_terms : Cal P w K mg base 3 "_law_terms" ["_law_bag", "_law_names_here", "_law_many"] (sp_law_terms K) := ⟨_, fd_law_terms, fx_glo X G c 21, F_law_terms.kp, b_law_terms, ok_law_terms (P := P) (w := w) (base := base) F_law_terms T C__law_of C__law_take⟩
  have C__law_condition_text : Cal P w K mg base 3 "_law_condition_text" ["_law_parts"] (sp_law_condition_text K) := ⟨_, fd_law_condition_text, fx_glo X G c 12, F_law_condition_text.kp, b_law_condition_text, ok_law_condition_text (P := P) (w := w) (base := base) F_law_condition_text T C__law_atom_text⟩
  have C__law_wrong : Cal P w K mg base 3 "_law_wrong" ["_law_tokens", "_law_words"] (sp_law_wrong K) := ⟨_, fd_law_wrong, fx_glo X G c 23, F_law_wrong.kp, b_law_wrong, ok_law_wrong (P := P) (w := w) (base := base) F_law_wrong T C__law_next⟩
  have C__law_spoiled : Cal P w K mg base 3 "_law_spoiled" ["_law_bag", "_law_tokens", "_law_words"] (sp_law_spoiled K) := ⟨_, fd_law_spoiled, fx_glo X G c 18, F_law_spoiled.kp, b_law_spoiled, ok_law_spoiled (P := P) (w := w) (base := base) F_law_spoiled T C__law_of C__law_take⟩
  have N_Reader_read_atom : MtC P w K mg base 4 (He.ga K "Reader") "read_atom" ["self"] (sp_Reader_read_atom K) := ⟨fx_cls c 40, _, fd_Reader_read_atom, fx_meth c 57, fx_fnF c 58, b_Reader_read_atom, ok_Reader_read_atom (P := P) (w := w) (base := base) F_Reader_read_atom T N_Reader_peek N_Reader_sum_terms N_Reader_take⟩
  have C__law_atom : Cal P w K mg base 4 "_law_atom" ["_law_bag", "_law_names_here", "_law_handles", "_law_requests"] (sp_law_atom K) := ⟨_, fd_law_atom, fx_glo X G c 9, F_law_atom.kp, b_law_atom, ok_law_atom (P := P) (w := w) (base := base) F_law_atom T C__law_of C__law_terms⟩
  have N_Reader_read_part : MtC P w K mg base 5 (He.ga K "Reader") "read_part" ["self"] (sp_Reader_read_part K) := ⟨fx_cls c 40, _, fd_Reader_read_part, fx_meth c 59, fx_fnF c 60, b_Reader_read_part, ok_Reader_read_part (P := P) (w := w) (base := base) F_Reader_read_part T N_Reader_peek N_Reader_read_atom⟩
  have C__law_condition : Cal P w K mg base 5 "_law_condition" ["_law_bag", "_law_names_here", "_law_handles", "_law_requests", "_law_most"] (sp_law_condition K) := ⟨_, fd_law_condition, fx_glo X G c 11, F_law_condition.kp, b_law_condition, ok_law_condition (P := P) (w := w) (base := base) F_law_condition T C__law_atom C__law_take⟩
  have N_Reader_read_condition : MtC P w K mg base 6 (He.ga K "Reader") "read_condition" ["self"] (sp_Reader_read_condition K) := ⟨fx_cls c 40, _, fd_Reader_read_condition, fx_meth c 61, fx_fnF c 62, b_Reader_read_condition, ok_Reader_read_condition (P := P) (w := w) (base := base) F_Reader_read_condition T N_Reader_peek N_Reader_read_part⟩
  have M_Condition : MkC P w K mg base 7 "Condition" (He.ga K "Condition") ["self", "text", "names", "handles", "requests"] (sp_Condition___init__ K) := ⟨fx_glo X G c 2, _, fd_Condition___init__, fx_mkr c 48, b_Condition___init__, ok_Condition___init__ (P := P) (w := w) (base := base) F_Condition___init__ T M_Reader N_Reader_read_condition X_BadCondition⟩
  have C__law_told : Cal P w K mg base 9 "_law_told" ["_law_text", "_law_words"] (sp_law_told K) := ⟨_, fd_law_told, fx_glo X G c 22, F_law_told.kp, b_law_told, ok_law_told (P := P) (w := w) (base := base) F_law_told T M_Condition⟩
  exact ok_law (P := P) (w := w) (base := base) F_law T C__law_condition C__law_condition_text C__law_names C__law_of C__law_seed C__law_spoiled C__law_take C__law_told C__law_wrong
end NL
open PySem PySem.W PySem.Calls PyProof.Rows
set_option maxHeartbeats 0 in
theorem PySem.Challenge.cw_nowlater_k04_conditions_refused_holds : PySem.Challenge.rw_nowlater_k04_conditions_refused.Holds := by
  w_on; o_law
  refine HandSHeadRun.head_any (r := NL.RR) (q := view NL.RR.prog [34]) (H := NL.hk) (ob := NL.obH) (M := 6000) (loose := NL.loose) (d := HandSHeadRun.topDef NL.RR.prog 34) (kwd := []) NL.obH_eq
    (by kernel_rfl) (fun s => by kernel_rfl) NL.run (by kernel_rfl) (by kernel_rfl) (by kernel_rfl) (by rfl) (by first | assumption | decide +kernel) (by decide +kernel) ⟨rfl, rfl, rfl, rfl, rfl, by decide +kernel⟩ ?hw ?hc
  case hw => w_witness2
  case hc =>
    refine LamX.walk_ofTsE (l := PySem.Challenge.rw_nowlater_k04_conditions_refused) (n := 63) (k := 10) (x := "_law_script") (CX := fun w => L2.CX (PySem.Challenge.rw_nowlater_k04_conditions_refused).prog w) rfl (by decide) (by kernel_rfl) ⟨rfl, by decide, by decide⟩ ?F NL.hCX
    intro w mg fa h Y G hmg0
    obtain ⟨K, KX, S⟩ := Y
    have hmg : mg ("law" : PySem.Str) = some (.ref fa) := by
      have e : (HandSHeadRun.topDef NL.RR.prog 34).name = ("law" : PySem.Str) := by kernel_rfl
      rw [← e]
      exact hmg0
    obtain ⟨fd, hb, hF⟩ := NL.facts (P := (PySem.Challenge.rw_nowlater_k04_conditions_refused).prog) (w := w) KX G hmg S
    exact ⟨K, KX, fd, [], NL.sp_law K, (fun _ z => nomatch z), (fun _ z => nomatch z), (fun _ z => nomatch z), hb, fun H a ns hl hbits _ hS => ⟨a, ns, rfl, hS, hl, hbits, fun _ => rfl⟩, fun base h1 h2 _ => hF base h1 h2⟩
#print axioms PySem.Challenge.cw_nowlater_k04_conditions_refused_holds
