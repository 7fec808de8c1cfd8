import PyProof.Rows.All
import Wide.All
import OpenK.AllK
import Wide.FinOn
import HandS.ForMost
import HandS.ForExc
import HandS.Flow
import HandS.Wide
import HandS.IsInst
import HandS.ExcIs
import HandS.ExcField
import HandS.RaiseMore
import HandS.Star
import HandS.EndBits
import HandS.Walk
import HandS.NoneIn
import HandS.ExcInit
import KE.KExcInit
import PyProof.ExcBaseAll.LookupError
import PyProof.ExcBaseAll.RuntimeError
import KE.KExcIs
import KE.KStateDown
import Lean
import HandS.Defaults
import HandS.Head0
import HandS.Head1
import HandS.Head2
import HandS.HeadEnd
import HandS.HeadHook1
import HandS.HeadHook2
import HandS.HeadHook3
import HandS.HeadHook4
import HandS.EndTab
import HandS.HeadWalk
import PyProof.RulesMatch
import KE.KCallOwn
import HandS.Dict
import HandS.Strs
import HandS.Sort
import HandS.TupAny
import HandS.HeadNt
import HandS.ClsMeth
import HandS.CallLocal
import HandS.Conv
import HandS.Codes
import KE.KUnpackStar
import HandS.Style
import HandS.More
import PyProof.ListStr
import HandS.TupLen
import HandS.Zip
import HandS.TryOnly
import HandS.MakeKw
import HandS.MakeKwOnly
import KE.GoesEnum
import HandS.ExcOwn
import KE.KDictCopyH
import KE.KDictOf
import HandS.TryElse
import HandS.Replace
import KE.KWords
import HandS.StrSplit
import HandS.ReplaceList
import PySem.Challenge.RW_nowlater_k03_conditions
set_option Elab.async false
set_option linter.all false
set_option maxRecDepth 100000
set_option maxHeartbeats 4000000
namespace NL
open PySem L2

/-! ### step lemmas: one a reading -/
section
variable {σ : L2.St} {H : Hp} {D : Ends} {i : Nat} {v : V} {Q : VK} {QB : Bool → Hp → Prop} {QA : List V → Hp → Prop}
theorem g_var (e : σ[i]? = some (some v)) (h : Q v H) : tVar i σ H Q := ⟨v, e, h⟩
theorem g_c (h : Q v H) : tC v σ H Q := h
theorem g_op {r : R2} {ta tb : TE} (h : ta σ H fun x H1 => tb σ H1 fun y H2 => r x y H2 Q) : tOp r ta tb σ H Q := h
theorem g_un {r : V → Hp → VK → Prop} {ta : TE} (h : ta σ H fun x H1 => r x H1 Q) : tUn r ta σ H Q := h
theorem g_test {te : TE} (h : te σ H fun x H' => ∃ k, x = .bl k ∧ QB k H') : tTest te σ H QB := h
theorem g_tb {te : TE} (h : te σ H fun x H' => ∃ k, x = .bl k ∧ QB k H') : tB te σ H QB := h
theorem g_bl {b : Bool} {PB : Bool → Prop} (h : PB b) : ∃ k, V.bl b = .bl k ∧ PB k := ⟨b, rfl, h⟩
theorem g_not {t : TT} (h : t σ H fun c H1 => QB (!c) H1) : tNot t σ H QB := h
theorem g_and {t u : TT} (h : t σ H fun c H1 => if c = true then u σ H1 QB else QB false H1) : tAnd t u σ H QB := h
theorem g_or {t u : TT} (h : t σ H fun c H1 => if c = true then QB true H1 else u σ H1 QB) : tOr t u σ H QB := h
theorem g_andT {K : PySem.W.Frag} {ta tb : TE} (h : ta σ H fun x H1 => ∃ k, TruV K x H1 k ∧ if k = true then tb σ H1 Q else Q x H1) : tAndT K ta tb σ H Q := h
theorem g_orT {K : PySem.W.Frag} {ta tb : TE} (h : ta σ H fun x H1 => ∃ k, TruV K x H1 k ∧ if k = true then Q x H1 else tb σ H1 Q) : tOrT K ta tb σ H Q := h
theorem g_notT {K : PySem.W.Frag} {ta : TE} (h : ta σ H fun x H1 => ∃ k, TruV K x H1 k ∧ Q (.bl (!k)) H1) : tNotT K ta σ H Q := h
theorem g_ifE {t : TT} {ta tb : TE} (h : t σ H fun c H1 => if c = true then ta σ H1 Q else tb σ H1 Q) : tIf t ta tb σ H Q := h
theorem g_cb {r : List V → Hp → VK → Prop} {t : TA} (h : t σ H fun vs H1 => r vs H1 Q) : tCB r t σ H Q := h
theorem g_nil (h : QA [] H) : tNil σ H QA := h
theorem g_cons {ta : TE} {tr : TA} (h : ta σ H fun x H1 => tr σ H1 fun xs H2 => QA (x :: xs) H2) : tCons ta tr σ H QA := h
theorem g_callS {sp : Sp} {E : L2.St → XK} {t : TA} (h : t σ H fun vs H1 => sp vs H1 Q (E σ)) : tCallS sp E t σ H Q := h
/-- statements; the ends by places -/
theorem g_seq {t u : TS} {nx : L2.St → Hp → Prop} {rt : VK} {bk ct : L2.St → Hp → Prop} (h : t ⟨u ⟨nx, rt, bk, ct⟩, rt, bk, ct⟩ σ H) : tSeq t u ⟨nx, rt, bk, ct⟩ σ H := h
theorem g_next {nx : L2.St → Hp → Prop} {rt : VK} {bk ct : L2.St → Hp → Prop} (h : nx σ H) : tNext ⟨nx, rt, bk, ct⟩ σ H := h
theorem g_brk {nx : L2.St → Hp → Prop} {rt : VK} {bk ct : L2.St → Hp → Prop} (h : bk σ H) : tBreak ⟨nx, rt, bk, ct⟩ σ H := h
theorem g_cont {nx : L2.St → Hp → Prop} {rt : VK} {bk ct : L2.St → Hp → Prop} (h : ct σ H) : tCont ⟨nx, rt, bk, ct⟩ σ H := h
theorem g_asg {te : TE} {g : TG} {nx : L2.St → Hp → Prop} {rt : VK} {bk ct : L2.St → Hp → Prop} (h : te σ H fun x H1 => g x σ H1 nx) : tAsg te g ⟨nx, rt, bk, ct⟩ σ H := h
theorem g_drop {te : TE} {nx : L2.St → Hp → Prop} {rt : VK} {bk ct : L2.St → Hp → Prop} (h : te σ H fun _ H1 => nx σ H1) : tDrop te ⟨nx, rt, bk, ct⟩ σ H := h
theorem g_ret {te : TE} {nx : L2.St → Hp → Prop} {rt : VK} {bk ct : L2.St → Hp → Prop} (h : te σ H rt) : tRet te ⟨nx, rt, bk, ct⟩ σ H := h
theorem g_retN {nx : L2.St → Hp → Prop} {rt : VK} {bk ct : L2.St → Hp → Prop} (h : rt .non H) : tRetN ⟨nx, rt, bk, ct⟩ σ H := h
theorem g_ifS {c : TT} {t u : TS} (h : c σ H fun b H1 => if b = true then t D σ H1 else u D σ H1) : tIfS c t u D σ H := h
theorem g_name {QS : L2.St → Hp → Prop} (h : QS (σ.set i (some v)) H) : gName i v σ H QS := h
theorem g_nameE {σ' : L2.St} {QS : L2.St → Hp → Prop} (e : σ.set i (some v) = σ') (h : QS σ' H) : gName i v σ H QS := by subst e; exact h
theorem wipe_nil (σ : L2.St) : wipe σ [] = σ := rfl
theorem wipe_cons (σ : L2.St) (i : Nat) (r : List Nat) : wipe σ (i :: r) = (wipe σ r).set i none := rfl
theorem g_sub {QS : L2.St → Hp → Prop} {to ti : TE} {t : TSet} (h : to σ H fun o H1 => ti σ H1 fun i H2 => t o i v H2 fun H3 => QS σ H3) : gSub to ti t v σ H QS := h
theorem g_augE {x : V} {te : TE} {ti : TIp} {nx : L2.St → Hp → Prop} {rt : VK} {bk ct : L2.St → Hp → Prop} (e : σ[i]? = some (some x)) (h : te σ H fun y H1 => ti x y H1 fun z H2 => gName i z σ H2 nx) : tAug i te ti ⟨nx, rt, bk, ct⟩ σ H := ⟨x, e, h⟩
/-- a tuple or a list unpacked -/
def gTL (K : PySem.W.Frag) (n : Nat) (t : TGs) : TG := fun v σ H Q => ∃ a xs, v = .ref a ∧ (SqT K H a xs ∨ SqL K H a xs) ∧ xs.length = n ∧ t xs σ H Q
theorem g_gtup {K : PySem.W.Frag} {n : Nat} {t : TGs} {a : Addr} {xs : List V} {QS : L2.St → Hp → Prop} (h1 : SqT K H a xs) (h2 : xs.length = n) (h : t xs σ H QS) : gTL K n t (.ref a) σ H QS := ⟨a, xs, rfl, .inl h1, h2, h⟩
theorem g_gcons {t : TG} {u : TGs} {r : List V} {QS : L2.St → Hp → Prop} (h : t v σ H fun σ' H' => u r σ' H' QS) : gCons t u (v :: r) σ H QS := ⟨v, r, rfl, h⟩
theorem g_gnil {QS : L2.St → Hp → Prop} (h : QS σ H) : gNil [] σ H QS := ⟨rfl, h⟩
theorem g_lst {t : TA} (h : t σ H fun xs H1 => xs.length ≤ sizeLine ∧ ∀ p, H1 p = none → Q (.ref p) (upd H1 p (.lst xs))) : tLst t σ H Q := h
theorem g_tup {t : TA} (h : t σ H fun xs H1 => xs.length ≤ sizeLine ∧ ∀ p, H1 p = none → Q (.ref p) (upd H1 p (.tup xs))) : tTup t σ H Q := h
theorem g_ite {b : Bool} {A B : Prop} (h1 : b = true → A) (h2 : b = false → B) : if b = true then A else B := by
  cases b
  · exact iteF (h2 rfl)
  · exact iteT (h1 rfl)
theorem g_iteD {c A B : Prop} [Decidable c] (h1 : c → A) (h2 : ¬ c → B) : if decide c = true then A else B :=
  g_ite (fun e => h1 (of_decide_eq_true e)) fun e => h2 (of_decide_eq_false e)
theorem g_iteN {c A B : Prop} [Decidable c] (h1 : ¬ c → A) (h2 : c → B) : if (!decide c) = true then A else B :=
  g_ite (fun e => h1 (by intro z; rw [decide_eq_true z] at e; cases e)) fun e => h2 (by
    by_cases z : c
    · exact z
    · rw [decide_eq_false z] at e; cases e)
theorem g_iteT {b : Bool} {A B : Prop} (e : b = true) (h : A) : if b = true then A else B := by rw [e]; exact iteT h
theorem g_iteF {b : Bool} {A B : Prop} (e : b = false) (h : B) : if b = true then A else B := by rw [e]; exact iteF h
end

/-! ### rules by the values' own kinds -/
theorem opR_imp {X : Cx} {f : Value → Value → Sem Value} {r r' : R2} (h : OpR X f r) (i : ∀ x y H Q, r' x y H Q → r x y H Q) : OpR X f r' := fun pins s σ H x y v u Q I rx ry q => h pins s σ H x y v u Q I rx ry (i x y H Q q)
def dAdd : R2 := fun x y H Q => match x, y with
  | .int i, .int j => Q (.int (i + j)) H
  | .str a, .str b => a.length + b.length ≤ sizeLine ∧ Q (.str (a ++ b)) H
  | .ref p, .ref q => ∃ xs ys, H p = some (.lst xs) ∧ H q = some (.lst ys) ∧ xs.length + ys.length ≤ sizeLine ∧ ∀ l, H l = none → Q (.ref l) (upd H l (.lst (xs ++ ys)))
  | _, _ => False
theorem op_dAdd {X : Cx} : OpR X (binaryOp .Add) dAdd := by
  intro pins s σ H x y v u Q I rx ry h
  cases x <;> cases y <;> first
    | exact op_add pins s σ H _ _ v u Q I rx ry ⟨_, _, rfl, rfl, h⟩
    | exact op_add_str pins s σ H _ _ v u Q I rx ry ⟨_, _, rfl, rfl, h.1, h.2⟩
    | (obtain ⟨xs, ys, h1, h2, h3, h4⟩ := h
       exact op_cat pins s σ H _ _ v u Q I rx ry ⟨_, _, _, _, rfl, rfl, h1, h2, h3, h4⟩)
    | exact (show False from h).elim
def dSub : R2 := fun x y H Q => match x, y with
  | .int i, .int j => Q (.int (i - j)) H
  | _, _ => False
theorem op_dSub {X : Cx} : OpR X (binaryOp .Sub) dSub := opR_imp op_sub fun x y H Q h => by
  cases x <;> cases y <;> first
    | exact ⟨_, _, rfl, rfl, h⟩
    | exact (show False from h).elim
def dMul : R2 := fun x y H Q => match x, y with
  | .int i, .int j => (CMul i j ∨ CMulW i j) ∧ Q (.int (i * j)) H
  | .ref p, .int k => ∃ xs, H p = some (.lst xs) ∧ -(2 ^ 63) ≤ k ∧ k < 2 ^ 63 ∧ xs.length * k.toNat ≤ sizeLine ∧ ∀ l, H l = none → Q (.ref l) (upd H l (.lst (List.replicate k.toNat xs).flatten))
  | .str a, .int n => MulOk a n ∧ Q (.str (Txt.mul a n)) H
  | _, _ => False
theorem op_mulS {X : Cx} : OpR X (binaryOp .Mult) (fun x y H Q => ∃ a n, x = .str a ∧ y = .int n ∧ MulOk a n ∧ Q (.str (Txt.mul a n)) H) := by
  intro pins s σ H x y v u Q I rx ry h
  obtain ⟨a, n, rfl, rfl, h1, h2⟩ := h
  obtain ⟨t, rfl⟩ := (show ∃ t, v = Value.str a t from rx)
  obtain ⟨t2, rfl⟩ := (show ∃ t, u = Value.int n t from ry)
  exact SB.mul h1 fun t' k => ⟨.str (Txt.mul a n), H, I.tok k, ⟨t', rfl⟩, h2⟩
def dMod : R2 := fun x y H Q => match x, y with
  | .int i, .int j => 0 < j ∧ Q (.int (i % j)) H
  | _, _ => False
theorem op_dMod {X : Cx} : OpR X (binaryOp .Mod) dMod := opR_imp op_mod fun x y H Q h => by
  cases x <;> cases y <;> first
    | exact ⟨_, _, rfl, rfl, h.1, h.2⟩
    | exact (show False from h).elim
def dDiv : R2 := fun x y H Q => match x, y with
  | .int i, .int j => (0 < j ∧ j.natAbs.log2 < 9000) ∧ Q (.int (i / j)) H
  | _, _ => False
theorem op_dDiv {X : Cx} : OpR X (binaryOp .FloorDiv) dDiv := opR_imp op_fdivW fun x y H Q h => by
  cases x <;> cases y <;> first
    | exact ⟨_, _, rfl, rfl, h.1, h.2⟩
    | exact (show False from h).elim
theorem op_dMul {X : Cx} : OpR X (binaryOp .Mult) dMul := by
  intro pins s σ H x y v u Q I rx ry h
  cases x <;> cases y <;> first
    | (rcases h with ⟨h | h, q⟩
       · exact op_mul pins s σ H _ _ v u Q I rx ry ⟨_, _, rfl, rfl, h, q⟩
       · exact op_mulW pins s σ H _ _ v u Q I rx ry ⟨_, _, rfl, rfl, h, q⟩)
    | (obtain ⟨xs, h1, h2, h3, h4, h5⟩ := h
       exact op_rep pins s σ H _ _ v u Q I rx ry ⟨_, _, _, rfl, rfl, h1, h2, h3, h4, h5⟩)
    | exact op_mulS pins s σ H _ _ v u Q I rx ry ⟨_, _, rfl, rfl, h⟩
    | exact (show False from h).elim
def dPow : R2 := fun x y H Q => match x, y with
  | .int i, .int j => CPow i j ∧ Q (.int (i ^ j.toNat)) H
  | _, _ => False
theorem op_dPow {X : Cx} : OpR X (binaryOp .Pow) dPow := opR_imp op_pow fun x y H Q h => by
  cases x <;> cases y <;> first
    | exact ⟨_, _, rfl, rfl, h.1, h.2⟩
    | exact (show False from h).elim
/-- comparisons of ints -/
def dCmp (f : Int → Int → Bool) : R2 := fun x y H Q => match x, y with
  | .int i, .int j => Q (.bl (f i j)) H
  | _, _ => False
abbrev dLt := dCmp fun i j => decide (i < j)
abbrev dLe := dCmp fun i j => decide (i ≤ j)
abbrev dGt := dCmp fun i j => decide (j < i)
abbrev dGe := dCmp fun i j => decide (j ≤ i)
theorem dCmp_imp {f : Int → Int → Bool} (x y : V) (H : Hp) (Q : VK) (h : dCmp f x y H Q) : (rI0 fun i j => .bl (f i j)) x y H Q := by
  cases x <;> cases y <;> first
    | exact ⟨_, _, rfl, rfl, h⟩
    | exact (show False from h).elim
theorem op_dLt {X : Cx} : OpR X (compareOp .Lt) dLt := opR_imp op_lt dCmp_imp
theorem op_dLe {X : Cx} : OpR X (compareOp .LtE) dLe := opR_imp op_le dCmp_imp
theorem op_dGt {X : Cx} : OpR X (compareOp .Gt) dGt := opR_imp op_gt dCmp_imp
theorem op_dGe {X : Cx} : OpR X (compareOp .GtE) dGe := opR_imp op_ge dCmp_imp
/-- == and != : scalars, or data -/
def dEq (K : PySem.W.Frag) : R2 := fun x y H Q => rEq x y H Q ∨ rEqD K x y H Q
def dNe (K : PySem.W.Frag) : R2 := fun x y H Q => rNe x y H Q ∨ rNeD K x y H Q
theorem op_dEq0 {X : Cx} (hu : X.A.units + 64 < cLine) : OpR X (compareOp .Eq) (dEq X.K) := OpR.or op_eq (op_eqD hu)
theorem op_dNe0 {X : Cx} (hu : X.A.units + 64 < cLine) : OpR X (compareOp .NotEq) (dNe X.K) := OpR.or op_ne (op_neD hu)
/-- in, not in: one sign in a text; a flat thing in a list or tuple -/
def dIn (K : PySem.W.Frag) : R2 := fun x y H Q => match y with
  | .str z => ∃ c : Nat, x = .str ⟨#[c]⟩ ∧ Q (.bl (decide (c ∈ z.cps.toList))) H
  | .ref p => ∃ xs, (SqL K H p xs ∨ SqT K H p xs) ∧ flatV x = true ∧ xs.all flatV = true ∧ Q (.bl (inV x xs)) H
  | _ => False
def dNotIn (K : PySem.W.Frag) : R2 := fun x y H Q => match y with
  | .str z => ∃ c : Nat, x = .str ⟨#[c]⟩ ∧ Q (.bl (!decide (c ∈ z.cps.toList))) H
  | .ref p => ∃ xs, (SqL K H p xs ∨ SqT K H p xs) ∧ flatV x = true ∧ xs.all flatV = true ∧ Q (.bl (!inV x xs)) H
  | _ => False
theorem op_dIn0 {X : Cx} : OpR X (compareOp .In) (dIn X.K) := by
  intro pins s σ H x y v u Q I rx ry h
  cases y with
  | str z =>
    obtain ⟨c, e, q⟩ := h
    exact op_in_sign pins s σ H _ _ v u Q I rx ry ⟨c, z, e, rfl, q⟩
  | ref p =>
    obtain ⟨xs, h1, h2, h3, q⟩ := h
    exact op_in_seq pins s σ H _ _ v u Q I rx ry ⟨p, xs, rfl, h1, h2, h3, q⟩
  | _ => exact (show False from h).elim
theorem op_dNotIn0 {X : Cx} : OpR X (compareOp .NotIn) (dNotIn X.K) := by
  intro pins s σ H x y v u Q I rx ry h
  cases y with
  | str z =>
    obtain ⟨c, e, q⟩ := h
    exact op_notIn_sign pins s σ H _ _ v u Q I rx ry ⟨c, z, e, rfl, q⟩
  | ref p =>
    obtain ⟨xs, h1, h2, h3, q⟩ := h
    exact op_notIn_seq pins s σ H _ _ v u Q I rx ry ⟨p, xs, rfl, h1, h2, h3, q⟩
  | _ => exact (show False from h).elim
def dIs : R2 := fun x y H Q => match y with
  | .non => Q (.bl (decide (x = .non))) H
  | _ => False
def dIsNot : R2 := fun x y H Q => match y with
  | .non => Q (.bl (!decide (x = .non))) H
  | _ => False
theorem op_dIs {X : Cx} : OpR X (compareOp .Is) dIs := opR_imp op_isN fun x y H Q h => by
  cases y <;> first
    | exact ⟨rfl, h⟩
    | exact (show False from h).elim
theorem op_dIsNot {X : Cx} : OpR X (compareOp .IsNot) dIsNot := opR_imp op_notN fun x y H Q h => by
  cases y <;> first
    | exact ⟨rfl, h⟩
    | exact (show False from h).elim
/-! ### built-in calls -/
def dLen (K : PySem.W.Frag) : List V → Hp → VK → Prop := fun xs H Q => match xs with
  | [.str y] => y.length ≤ sizeLine ∧ Q (.int y.length) H
  | [.ref p] => ∃ ys, (SqL K H p ys ∨ SqT K H p ys) ∧ Q (.int ys.length) H
  | _ => False
theorem cl_len0 {X : Cx} : CallR X (.builtin "len") (dLen X.K) := by
  intro pins s σ H xs us Q I r h
  match xs, h with
  | [.str y], h => exact call_len_str pins s σ H _ us Q I r ⟨y, rfl, h.1, h.2⟩
  | [.ref p], h =>
    obtain ⟨ys, h1, q⟩ := h
    exact call_len_seq pins s σ H _ us Q I r ⟨p, ys, rfl, h1, q⟩
def dInt : List V → Hp → VK → Prop := fun xs H Q => match xs with
  | [.int i] => Q (.int i) H
  | [.bl k] => Q (.int (if k then 1 else 0)) H
  | [.str a] => ∃ n, PySem.intText? a = some n ∧ a.length ≤ 640 ∧ Q (.int n) H
  | _ => False
theorem cl_int {X : Cx} : CallR X (.type "int") dInt := by
  intro pins s σ H xs us Q I r h
  match xs, h with
  | [.int i], h => exact call_int1 pins s σ H _ us Q I r (.inl ⟨i, rfl, h⟩)
  | [.bl k], h => exact call_int1 pins s σ H _ us Q I r (.inr ⟨k, rfl, h⟩)
  | [.str a], h =>
    obtain ⟨n, h1, h2, q⟩ := h
    exact call_int_str pins s σ H _ us Q I r ⟨a, n, rfl, h1, h2, q⟩
def dStr : List V → Hp → VK → Prop := fun xs H Q => match xs with
  | [.int i] => i.natAbs.log2 < 1920 ∧ Q (.str (toString i)) H
  | [.str a] => Q (.str a) H
  | _ => False
theorem cl_str {X : Cx} : CallR X (.type "str") dStr := by
  intro pins s σ H xs us Q I r h
  match xs, h with
  | [.int i], h => exact call_str_int pins s σ H _ us Q I r ⟨i, rfl, h.1, h.2⟩
  | [.str a], h => exact SkE.call_str_str pins s σ H _ us Q I r ⟨a, rfl, h⟩
def dAbs : List V → Hp → VK → Prop := fun xs H Q => match xs with
  | [.int i] => Q (.int (if i < 0 then -i else i)) H
  | _ => False
theorem cl_abs {X : Cx} : CallR X (.builtin "abs") dAbs := by
  intro pins s σ H xs us Q I r h
  match xs, h with
  | [.int i], h => exact call_abs pins s σ H _ us Q I r ⟨i, rfl, h⟩
def dMax : List V → Hp → VK → Prop := fun xs H Q => match xs with
  | [.int i, .int j] => Q (.int (if j > i then j else i)) H
  | _ => False
theorem cl_max {X : Cx} (hc : X.calm = true) : CallR X (.builtin "max") dMax := by
  intro pins s σ H xs us Q I r h
  match xs, h with
  | [.int i, .int j], h => exact call_max2 hc pins s σ H _ us Q I r ⟨i, j, rfl, h⟩
def dMin : List V → Hp → VK → Prop := fun xs H Q => match xs with
  | [.int i, .int j] => Q (.int (if j < i then j else i)) H
  | _ => False
theorem cl_min {X : Cx} (hc : X.calm = true) : CallR X (.builtin "min") dMin := by
  intro pins s σ H xs us Q I r h
  match xs, h with
  | [.int i, .int j], h => exact call_min2 hc pins s σ H _ us Q I r ⟨i, j, rfl, h⟩
def dList (K : PySem.W.Frag) : List V → Hp → VK → Prop := fun xs H Q => match xs with
  | [.ref p] => ∃ ys, (SqL K H p ys ∨ SqT K H p ys) ∧ ∀ l, H l = none → Q (.ref l) (upd H l (.lst ys))
  | _ => False
theorem cl_list0 {X : Cx} : CallR X (.type "list") (dList X.K) := by
  intro pins s σ H xs us Q I r h
  match xs, h with
  | [.ref p], h =>
    obtain ⟨ys, h1, q⟩ := h
    exact call_list_of pins s σ H _ us Q I r ⟨p, ys, rfl, h1, q⟩
def dIsi (K : PySem.W.Frag) : List V → Hp → VK → Prop := rIsi K
theorem cl_isinstance0 {X : Cx} : CallR X (.builtin "isinstance") (dIsi X.K) := call_isi
/-! ### subscripts, slices -/
def dIx (K : PySem.W.Frag) : R2 := fun x y H Q => match x, y with
  | .ref p, .int i => ∃ xs v, (SqL K H p xs ∨ SqT K H p xs) ∧ atI xs i = some v ∧ Q v H
  | .str z, .int i => ∃ c, z.length ≤ sizeLine ∧ atI z.cps.toList i = some c ∧ Q (.str ⟨#[c]⟩) H
  | _, _ => False
theorem ix_dyn0 {X : Cx} : IxR X (dIx X.K) := by
  intro value slice pins s σ H x y v u Q I rx ry h hs
  refine ix_seq value slice pins s σ H x y v u Q I rx ry ?_ hs
  cases x <;> cases y <;> first
    | (obtain ⟨xs, w, h1 | h1, h2, q⟩ := h
       · exact .inl ⟨_, xs, _, w, rfl, rfl, h1, h2, q⟩
       · exact .inr (.inl ⟨_, xs, _, w, rfl, rfl, h1, h2, q⟩))
    | (obtain ⟨c, h1, h2, q⟩ := h
       exact .inr (.inr ⟨_, _, c, rfl, rfl, h1, h2, q⟩))
    | exact (show False from h).elim
def dSl (K : PySem.W.Frag) : V → Option Int → Option Int → Hp → VK → Prop := fun x lo hi H Q => match x with
  | .ref p => ∃ xs, SqL K H p xs ∧ ∀ l, H l = none → Q (.ref l) (upd H l (.lst (cutV xs lo hi)))
  | .str z => z.length ≤ sizeLine ∧ Q (.str (cutS z lo hi)) H
  | _ => False
theorem sl_dyn0 {X : Cx} : SlR X (dSl X.K) := by
  intro pins s σ H x v vl vu lo hi sl Q I rx hs pl pu h
  cases x with
  | ref p =>
    obtain ⟨xs, h1, q⟩ := h
    exact sl_list pins s σ H _ v vl vu lo hi sl Q I rx hs pl pu ⟨p, xs, rfl, h1, q⟩
  | str z => exact sl_str pins s σ H _ v vl vu lo hi sl Q I rx hs pl pu ⟨z, rfl, h.1, h.2⟩
  | _ => exact (show False from h).elim
section
variable {X : Cx} (K : PySem.W.Frag)
theorem op_dIn (h : X.K = K := by rfl) : OpR X (compareOp .In) (dIn K) := h ▸ op_dIn0
theorem op_dNotIn (h : X.K = K := by rfl) : OpR X (compareOp .NotIn) (dNotIn K) := h ▸ op_dNotIn0
theorem op_dEq (hu : X.A.units + 64 < cLine) (h : X.K = K := by rfl) : OpR X (compareOp .Eq) (dEq K) := h ▸ op_dEq0 hu
theorem op_dNe (hu : X.A.units + 64 < cLine) (h : X.K = K := by rfl) : OpR X (compareOp .NotEq) (dNe K) := h ▸ op_dNe0 hu
theorem cl_len (h : X.K = K := by rfl) : CallR X (.builtin "len") (dLen K) := h ▸ cl_len0
theorem cl_list (h : X.K = K := by rfl) : CallR X (.type "list") (dList K) := h ▸ cl_list0
theorem cl_isinstance (h : X.K = K := by rfl) : CallR X (.builtin "isinstance") (dIsi K) := h ▸ cl_isinstance0
theorem ix_dyn (h : X.K = K := by rfl) : IxR X (dIx K) := h ▸ ix_dyn0
theorem sl_dyn (h : X.K = K := by rfl) : SlR X (dSl K) := h ▸ sl_dyn0
end
/-! ### the forms that gen.py writes -/
section
variable {X : Cx} {x : Str} {e : Expr} {es : List Expr} {te : TE} {t : TA} {pos pos' p : Pos}
theorem q_set (i : Nat) (hN : X.N.Nodup) (he : PE X e te) (hi : X.N[i]? = some x := by rfl) (hx : Loc X.env.scope x := by first | exact Or.inl rfl | exact Or.inr rfl)
    (hs : swapsWith e (some (.Name x pos')) pos.line X.env = pure false := by rfl) (hf : X.fn x = true ∨ X.env.scope.names.lookup x = some .local := by first | exact .inl rfl | exact .inr rfl) :
    PS X (.Assign [.Name x pos'] e pos) (tAsg te (gName i)) := ps_set hN hi hx he hs hf
theorem q_name (i : Nat) (hN : X.N.Nodup) (hi : X.N[i]? = some x := by rfl) (hx : Loc X.env.scope x := by first | exact Or.inl rfl | exact Or.inr rfl)
    (hf : X.fn x = true ∨ X.env.scope.names.lookup x = some .local := by first | exact .inl rfl | exact .inr rfl) : PG X (.Name x pos) (gName i) := pg_name hN hi hx hf
theorem q_aug (i : Nat) {op : Operator} {ti : TIp} (hN : X.N.Nodup) (he : PE X e te) (ho : PIp X op ti) (hi : X.N[i]? = some x := by rfl) (hx : Loc X.env.scope x := by first | exact Or.inl rfl | exact Or.inr rfl)
    (hf : X.fn x = true ∨ X.env.scope.names.lookup x = some .local := by first | exact .inl rfl | exact .inr rfl) : PS X (.AugAssign (.Name x pos') op e pos) (tAug i te ti) := ps_aug hN hi hx he ho hf
/-- a module's name and its value -/
def GV (mg : Str → Option Value) (x : Str) (v : V) : Prop := ∃ u, mg x = some u ∧ RelV v u
theorem q_glob {v : V} (h : GV X.mg x v) (hg : Gl X x := by rfl) (hd : (x == ("__debug__" : Str)) = false := by decide) : PE X (.Name x pos) (tC v) := by
  obtain ⟨u, h1, h2⟩ := h
  exact pe_glob hg h1 h2 hd
/-- a def of the module: where it stands, how it binds, what it promises -/
structure Cal (P : Program) (w : World) (K : PySem.W.Frag) (mg : Str → Option Value) (base : Heap) (k : Nat) (x : Str) (ps : List Str) (sp : Sp) : Prop where
  ex : ∃ f fd, mg x = some (.ref f) ∧ PySem.W.keepIn K (.ref f) = true ∧ Binds K fd ps [] ∧ FnOk P w K mg base (L2.CX P w) k f fd ps sp
theorem q_call {W : WX} {k : Nat} {ps : List Str} {sp : Sp} (C : Cal X.prog X.w X.K X.mg X.base k x ps sp) (tk : Takes X W) (hr : Room k X.A) (ha : PA X (e :: es) t) (hg : Gl X x := by rfl) (hdb : (x == ("__debug__" : Str)) = false := by decide)
    (he : starEach (e :: es) X.env = (false, eval e X.env) :: starEach es X.env := by rfl) (hpl : (backTo pos (starEach es X.env)).any (·.1) = false := by rfl) :
    PE X (.Call (.Name x p) (e :: es) [] pos) (tCallS sp (WE W) t) := by
  obtain ⟨f, fd, h1, h2, h3, h4⟩ := C.ex
  exact pe_callS h4 hr hg h1 h2 h3 (fun σ => passAt tk σ) ha hdb he hpl
end

/-! ### step lemmas of the rules by kinds -/
section
variable {K : PySem.W.Frag} {H : Hp} {Q : VK} {i j : Int} {a b : Str} {p : Addr} {xs : List V} {v : V} {k : Bool}
theorem g_add_i (h : Q (.int (i + j)) H) : dAdd (.int i) (.int j) H Q := h
theorem g_add_s (z : a.length + b.length ≤ sizeLine) (h : Q (.str (a ++ b)) H) : dAdd (.str a) (.str b) H Q := ⟨z, h⟩
theorem g_sub_i (h : Q (.int (i - j)) H) : dSub (.int i) (.int j) H Q := h
theorem g_mul_i (z : CMul i j ∨ CMulW i j) (h : Q (.int (i * j)) H) : dMul (.int i) (.int j) H Q := ⟨z, h⟩
theorem g_mul_s (z : MulOk a i) (h : Q (.str (Txt.mul a i)) H) : dMul (.str a) (.int i) H Q := ⟨z, h⟩
theorem g_mod_i (z : 0 < j) (h : Q (.int (i % j)) H) : dMod (.int i) (.int j) H Q := ⟨z, h⟩
theorem g_div_i (z : 0 < j ∧ j.natAbs.log2 < 9000) (h : Q (.int (i / j)) H) : dDiv (.int i) (.int j) H Q := ⟨z, h⟩
theorem g_pow_i (z : CPow i j) (h : Q (.int (i ^ j.toNat)) H) : dPow (.int i) (.int j) H Q := ⟨z, h⟩
theorem g_cmp_i {f : Int → Int → Bool} (h : Q (.bl (f i j)) H) : dCmp f (.int i) (.int j) H Q := h
theorem dec_i : decide (V.int i = V.int j) = decide (i = j) := by simp
theorem dec_s : decide (V.str a = V.str b) = decide (a = b) := by simp
theorem dec_b {c d : Bool} : decide (V.bl c = V.bl d) = decide (c = d) := by simp
theorem g_eq_i (h : Q (.bl (decide (i = j))) H) : dEq K (.int i) (.int j) H Q := .inl ⟨rfl, by rw [dec_i]; exact h⟩
theorem g_eq_s (h : Q (.bl (decide (a = b))) H) : dEq K (.str a) (.str b) H Q := .inl ⟨rfl, by rw [dec_s]; exact h⟩
theorem g_eq_b {c d : Bool} (h : Q (.bl (decide (c = d))) H) : dEq K (.bl c) (.bl d) H Q := .inl ⟨rfl, by rw [dec_b]; exact h⟩
theorem g_ne_i (h : Q (.bl (!decide (i = j))) H) : dNe K (.int i) (.int j) H Q := .inl ⟨rfl, by rw [dec_i]; exact h⟩
theorem g_ne_s (h : Q (.bl (!decide (a = b))) H) : dNe K (.str a) (.str b) H Q := .inl ⟨rfl, by rw [dec_s]; exact h⟩
theorem g_ne_b {c d : Bool} (h : Q (.bl (!decide (c = d))) H) : dNe K (.bl c) (.bl d) H Q := .inl ⟨rfl, by rw [dec_b]; exact h⟩
theorem g_len_s (z : a.length ≤ sizeLine) (h : Q (.int a.length) H) : dLen K [.str a] H Q := ⟨z, h⟩
theorem g_len_l (z : SqL K H p xs ∨ SqT K H p xs) (h : Q (.int xs.length) H) : dLen K [.ref p] H Q := ⟨xs, z, h⟩
theorem g_int_i (h : Q (.int i) H) : dInt [.int i] H Q := h
theorem g_int_s {n : Int} (z1 : PySem.intText? a = some n) (z2 : a.length ≤ 640) (h : Q (.int n) H) : dInt [.str a] H Q := ⟨n, z1, z2, h⟩
theorem g_str_i (z : i.natAbs.log2 < 1920) (h : Q (.str (toString i)) H) : dStr [.int i] H Q := ⟨z, h⟩
theorem g_str_s (h : Q (.str a) H) : dStr [.str a] H Q := h
theorem g_abs (h : Q (.int (if i < 0 then -i else i)) H) : dAbs [.int i] H Q := h
theorem g_max (h : Q (.int (if j > i then j else i)) H) : dMax [.int i, .int j] H Q := h
theorem g_min (h : Q (.int (if j < i then j else i)) H) : dMin [.int i, .int j] H Q := h
theorem g_ix_l (z1 : SqL K H p xs ∨ SqT K H p xs) (z2 : atI xs i = some v) (h : Q v H) : dIx K (.ref p) (.int i) H Q := ⟨xs, v, z1, z2, h⟩
theorem g_ix_s {c : Nat} (z1 : a.length ≤ sizeLine) (z2 : atI a.cps.toList i = some c) (h : Q (.str ⟨#[c]⟩) H) : dIx K (.str a) (.int i) H Q := ⟨c, z1, z2, h⟩
theorem g_setL {QH : Hp → Prop} {n : Nat} (z1 : H p = some (.lst xs)) (z2 : ixN xs.length i = some n) (h : QH (upd H p (.lst (xs.set n v)))) : rSetL (.ref p) (.int i) v H QH := ⟨p, xs, i, n, rfl, rfl, z1, z2, h⟩
theorem g_isN (h : Q (.bl (decide (v = .non))) H) : dIs v .non H Q := h
theorem g_isNotN (h : Q (.bl (!decide (v = .non))) H) : dIsNot v .non H Q := h
end
theorem bt_len : bootBuiltins "len" = some (.builtin "len") := by decide +kernel
theorem bt_abs : bootBuiltins "abs" = some (.builtin "abs") := by decide +kernel
theorem bt_max : bootBuiltins "max" = some (.builtin "max") := by decide +kernel
theorem bt_min : bootBuiltins "min" = some (.builtin "min") := by decide +kernel
theorem bt_isinstance : bootBuiltins "isinstance" = some (.builtin "isinstance") := by decide +kernel
theorem bt_all : bootBuiltins "all" = some (.builtin "all") := by decide +kernel
theorem bt_int : bootBuiltins "int" = some (.type "int") := by decide +kernel
theorem bt_str : bootBuiltins "str" = some (.type "str") := by decide +kernel
theorem bt_bool : bootBuiltins "bool" = some (.type "bool") := by decide +kernel
theorem bt_list : bootBuiltins "list" = some (.type "list") := by decide +kernel
theorem q_bltn {X : Cx} {x : Str} {n : String} {pos : Pos} (hm : X.mg x = none) (hv : bootBuiltins x = some (.type n)) (hg : Gl X x := by rfl) (hn : x ≠ "__name__" := by decide) (hd : (x == ("__debug__" : Str)) = false := by decide) : PE X (.Name x pos) (tC (.ty n)) :=
  pe_bltn hg hm hv rfl hn hd
/-! ### loops -/
def Loop (J : It) (g : TG) (tb : TS) (D : Ends) (σ : L2.St) (H : Hp) : Prop := ∃ W : Nat → Nat → L2.St → Hp → Prop, (∃ m, W 0 m σ H) ∧ ∀ i m σ H, W i m σ H →
  (J.stop i H ∧ D.nx σ H) ∨ (J.go i H ∧ ∃ N : L2.St → Hp → Prop, (∀ σ' H', N σ' H' → ∃ m', m' < m ∧ W (i + 1) m' σ' H') ∧ ∀ x H', J.yld i H x H' → g x σ H' fun σ2 H2 => tb { D with nx := N, ct := N, bk := D.nx } σ2 H2)
def LoopC (J : It) (g : TG) (tt : TT) (te : TE) (vs : List Nat) (σ : L2.St) (H1 : Hp) (D : Addr) (Qd : Hp → Prop) : Prop := ∃ W : Nat → Nat → Hp → Prop, (∃ m, W 0 m (upd H1 D (.lst []))) ∧ ∀ i m H, W i m H →
  (J.stop i H ∧ Qd H) ∨ (J.go i H ∧ ∃ Nx : Hp → Prop, (∀ H', Nx H' → ∃ m', m' < m ∧ W (i + 1) m' H') ∧ ∀ x H', J.yld i H x H' → g x (wipe σ vs) H' fun σ2 H2 => wipe σ2 vs = wipe σ vs ∧ tt σ2 H2 fun b H3 =>
    if b = true then te σ2 H3 fun y H4 => ∃ acc, H4 D = some (.lst acc) ∧ acc.length < sizeLine ∧ Nx (upd H4 D (.lst (acc ++ [y]))) else Nx H3)
section
variable {σ : L2.St} {H : Hp} {K : PySem.W.Frag} {R : It → Hp → Prop} {p : Addr} {xs ys : List V} {te : TE} {ta : TA}
theorem g_for {wi : TI} {g : TG} {tb : TS} {D : Ends} (h : wi σ H fun J H1 => Loop J g tb D σ H1) : tFor wi g tb D σ H := h
theorem g_lc {wi : TI} {g : TG} {tt : TT} {te : TE} {vs : List Nat} {Q : VK} (h : wi σ H fun J H1 => ∀ D, H1 D = none → LoopC J g tt te vs σ H1 D fun H' => Q (.ref D) H') : tLc wi g tt te vs σ H Q := h
theorem g_iL (h : te σ H fun x H1 => ∃ a, x = .ref a ∧ (∃ xs, SqL K H1 a xs) ∧ R (Itl K a) H1) : iList K te σ H R := h
theorem g_iL1 {Z : Addr → Prop} (z : SqL K H p xs) (h : Z p) : ∃ a, V.ref p = .ref a ∧ (∃ xs, SqL K H a xs) ∧ Z a := ⟨p, rfl, ⟨xs, z⟩, h⟩
theorem g_iT (h : te σ H fun x H1 => ∃ a, x = .ref a ∧ (∃ xs, SqT K H1 a xs) ∧ R (Itt K a) H1) : iTup K te σ H R := h
theorem g_iT1 {Z : Addr → Prop} (z : SqT K H p xs) (h : Z p) : ∃ a, V.ref p = .ref a ∧ (∃ xs, SqT K H a xs) ∧ Z a := ⟨p, rfl, ⟨xs, z⟩, h⟩
theorem g_iS (h : te σ H fun v H1 => ∃ x, v = .str x ∧ R (Its x) H1) : iStr te σ H R := h
theorem g_iS1 {Z : Str → Prop} {a : Str} (h : Z a) : ∃ x, V.str a = .str x ∧ Z x := ⟨a, rfl, h⟩
theorem g_iE (h : ta σ H fun vs H1 => ∃ a xs, vs = [.ref a] ∧ SqL K H1 a xs ∧ R (Ite K a) H1) : iEnum K ta σ H R := h
theorem g_iE1 {Z : Addr → Prop} (z : SqL K H p xs) (h : Z p) : ∃ a xs, [V.ref p] = [.ref a] ∧ SqL K H a xs ∧ Z a := ⟨p, xs, rfl, z, h⟩
theorem g_iR (h : ta σ H fun vs H1 => ∃ j : Int, vs = [.int j] ∧ -(2 ^ 62) ≤ j ∧ j < 2 ^ 62 ∧ R (Itr 0 j.toNat) H1) : iRng1 ta σ H R := h
theorem g_iR1 {j : Int} (z1 : -(2 ^ 62) ≤ j) (z2 : j < 2 ^ 62) {Z : Int → Prop} (h : Z j) : ∃ i : Int, [V.int j] = [.int i] ∧ -(2 ^ 62) ≤ i ∧ i < 2 ^ 62 ∧ Z i := ⟨j, rfl, z1, z2, h⟩
/-- the forms of loops: an invariant by the turn -/
theorem lp_it {J : It} {n : Nat} {G : Hp → Prop} {Y : Nat → Hp → V → Hp → Prop} (w : Walk J n G Y) {g : TG} {tb : TS} {nx : L2.St → Hp → Prop} {rt : VK} {bk ct : L2.St → Hp → Prop} (Pv : Nat → L2.St → Hp → Prop) (h0 : Pv 0 σ H) (hG : ∀ i σ H, i ≤ n → Pv i σ H → G H)
    (hs : ∀ i x σ H H', i < n → Pv i σ H → Y i H x H' → g x σ H' fun σ2 H2 => tb ⟨Pv (i + 1), rt, nx, Pv (i + 1)⟩ σ2 H2) (hd : ∀ σ H, Pv n σ H → nx σ H) : Loop J g tb ⟨nx, rt, bk, ct⟩ σ H := for_it w Pv h0 hG hs hd
theorem lc_by {J : It} {n : Nat} {G : Hp → Prop} {Y : Nat → Hp → V → Hp → Prop} (w : Walk J n G Y) {g : TG} {tt : TT} {te : TE} {vs : List Nat} {D : Addr} {Qd : Hp → Prop} (Pv : Nat → Hp → Prop) (h0 : Pv 0 (upd H D (.lst []))) (hG : ∀ i H, i ≤ n → Pv i H → G H)
    (hs : ∀ i x H H', i < n → Pv i H → Y i H x H' → g x (wipe σ vs) H' fun σ2 H2 => wipe σ2 vs = wipe σ vs ∧ tt σ2 H2 fun b H3 =>
      if b = true then te σ2 H3 fun y H4 => ∃ acc, H4 D = some (.lst acc) ∧ acc.length < sizeLine ∧ Pv (i + 1) (upd H4 D (.lst (acc ++ [y]))) else Pv (i + 1) H3) (hd : ∀ H, Pv n H → Qd H) : LoopC J g tt te vs σ H D Qd := lc_it w Pv h0 hG hs hd
theorem g_yes {QB : Bool → Hp → Prop} (h : QB true H) : tYes σ H QB := h
theorem g_sl {r : V → Option Int → Option Int → Hp → VK → Prop} {te : TE} {tl th : TO} {Q : VK} (h : te σ H fun x H1 => tl σ H1 fun l H2 => th σ H2 fun u H3 => r x l u H3 Q) : tSl r te tl th σ H Q := h
theorem g_noP {QO : Option Int → Hp → Prop} (h : QO none H) : tNoPart σ H QO := h
theorem g_part {QO : Option Int → Hp → Prop} {t : TE} (h : t σ H fun x H1 => ∃ i, x = .int i ∧ QO (some i) H1) : tPart t σ H QO := h
theorem g_int1 {i : Int} {Z : Int → Prop} (h : Z i) : ∃ j, V.int i = .int j ∧ Z j := ⟨i, rfl, h⟩
theorem g_slL {lo hi : Option Int} {Q : VK} (z : SqL K H p xs) (h : ∀ l, H l = none → Q (.ref l) (upd H l (.lst (cutV xs lo hi)))) : dSl K (.ref p) lo hi H Q := ⟨xs, z, h⟩
theorem g_listL {Q : VK} (z : SqL K H p xs ∨ SqT K H p xs) (h : ∀ l, H l = none → Q (.ref l) (upd H l (.lst xs))) : dList K [.ref p] H Q := ⟨xs, z, h⟩
theorem g_inL {x : V} {Q : VK} (z1 : SqL K H p xs ∨ SqT K H p xs) (z2 : flatV x = true) (z3 : xs.all flatV = true) (h : Q (.bl (inV x xs)) H) : dIn K x (.ref p) H Q := ⟨xs, z1, z2, z3, h⟩
theorem g_ninL {x : V} {Q : VK} (z1 : SqL K H p xs ∨ SqT K H p xs) (z2 : flatV x = true) (z3 : xs.all flatV = true) (h : Q (.bl (!inV x xs)) H) : dNotIn K x (.ref p) H Q := ⟨xs, z1, z2, z3, h⟩
theorem g_inS {c : Nat} {z : Str} {Q : VK} (h : Q (.bl (decide (c ∈ z.cps.toList))) H) : dIn K (.str ⟨#[c]⟩) (.str z) H Q := ⟨c, rfl, h⟩
theorem g_ninS {c : Nat} {z : Str} {Q : VK} (h : Q (.bl (!decide (c ∈ z.cps.toList))) H) : dNotIn K (.str ⟨#[c]⟩) (.str z) H Q := ⟨c, rfl, h⟩
theorem g_bm {T : String} {r : V → List V → Hp → VK → Prop} {to : TE} {t : TA} {Q : VK} (h : to σ H fun x H1 => tyV K T x H1 ∧ t σ H1 fun xs H2 => r x xs H2 Q) : tBM K T r to t σ H Q := h
theorem g_bm0 {T : String} {r : V → List V → Hp → VK → Prop} {to : TE} {Q : VK} (h : to σ H fun x H1 => tyV K T x H1 ∧ r x [] H1 Q) : tBM0 K T r to σ H Q := h
theorem g_app {v : V} {Q : VK} (z1 : H p = some (.lst xs)) (z2 : xs.length < sizeLine) (h : Q .non (upd H p (.lst (xs ++ [v])))) : rAppend (.ref p) [v] H Q := ⟨p, xs, v, rfl, rfl, z1, z2, h⟩
theorem g_fld {ta : TE} {f : Str} {Q : VK} (h : ta σ H fun x H1 => ∃ a C dx fs v, x = .ref a ∧ H1 a = some (.ins C dx fs) ∧ Cls K C ∧ NoAttr K C f ∧ fs.lookup f = some v ∧ Q v H1) : tFld K ta f σ H Q := h
theorem g_sfld {ta tv : TE} {f : Str} {nx : L2.St → Hp → Prop} {rt : VK} {bk ct : L2.St → Hp → Prop} (h : tv σ H fun y H1 => ta σ H1 fun x H2 => ∃ a C dx fs, x = .ref a ∧ H2 a = some (.ins C dx fs) ∧ Cls K C ∧ NoAttr K C f ∧ fs.length < 1000 ∧ nx σ (upd H2 a (.ins C dx (putF f y fs)))) :
    sFld K ta tv f ⟨nx, rt, bk, ct⟩ σ H := h
theorem tyL {xs : List V} (z : SqL K H p xs) : tyV K "list" (.ref p) H := .inl ⟨rfl, xs, z⟩
theorem g_tyL {B : Prop} (z : SqL K H p xs) (h : B) : tyV K "list" (.ref p) H ∧ B := ⟨tyL z, h⟩
theorem g_tyS {B : Prop} {a : Str} (h : B) : tyV K "str" (.str a) H ∧ B := ⟨rfl, h⟩
theorem tru_b {b : Bool} {Z : Bool → Prop} (h : Z b) : ∃ k, TruV K (.bl b) H k ∧ Z k := ⟨b, rfl, h⟩
theorem tru_i {i : Int} {Z : Bool → Prop} (h : Z (i != 0)) : ∃ k, TruV K (.int i) H k ∧ Z k := ⟨_, rfl, h⟩
theorem tru_n {Z : Bool → Prop} (h : Z false) : ∃ k, TruV K .non H k ∧ Z k := ⟨_, rfl, h⟩
theorem tru_l {Z : Bool → Prop} (z : SqL K H p xs) (h : Z (!xs.isEmpty)) : ∃ k, TruV K (.ref p) H k ∧ Z k := ⟨_, .inl ⟨xs, z, rfl⟩, h⟩
end
/-! ### heaps that keep what they had, but at some places -/
def Sx (W : List Addr) (H H' : Hp) : Prop := ∀ a o, a ∉ W → H a = some o → H' a = some o
theorem Sx.refl {W : List Addr} (H : Hp) : Sx W H H := fun _ _ _ h => h
theorem Sx.trans {W : List Addr} {H H1 H2 : Hp} (a : Sx W H H1) (b : Sx W H1 H2) : Sx W H H2 := fun c o h e => b c o h (a c o h e)
theorem Sx.of {W : List Addr} {H H' : Hp} (h : Same H H') : Sx W H H' := fun a o _ e => h a o e
theorem Sx.same {H H' : Hp} (h : Sx [] H H') : Same H H' := fun a o e => h a o (by simp) e
theorem Sx.new {W : List Addr} {H H' : Hp} {p : Addr} {o : HO} (h : Sx W H H') (n : H' p = none) : Sx W H (upd H' p o) := fun a u w e => by
  have q := h a u w e
  rw [upd_ne (ne_of_none q n)]; exact q
theorem Sx.mut {W : List Addr} {H H' : Hp} {p : Addr} {o : HO} (h : Sx W H H') (n : H p = none) : Sx W H (upd H' p o) := fun a u w e => by
  rw [upd_ne (ne_of_none e n)]; exact h a u w e
theorem Sx.put {W : List Addr} {H H' : Hp} {p : Addr} {o : HO} (h : Sx W H H') (n : p ∈ W) : Sx W H (upd H' p o) := fun a u w e => by
  rw [upd_ne (show a ≠ p from fun z => w (by rw [z]; exact n))]; exact h a u w e
theorem Sx.mono {W W' : List Addr} {H H' : Hp} (h : Sx W H H') (i : ∀ a ∈ W, a ∈ W') : Sx W' H H' := fun a o w e => h a o (fun z => w (i a z)) e
theorem Sx.free {W : List Addr} {H H' : Hp} {p : Addr} (h : Sx W H H') (w : p ∉ W) (n : H' p = none) : H p = none := by
  cases q : H p with
  | none => rfl
  | some o => rw [h p o w q] at n; cases n
theorem Sx.get1 {b a : Addr} {o : HO} {H H' : Hp} (h : Sx [b] H H') (n : a ≠ b) (e : H a = some o) : H' a = some o := h a o (by simpa using n) e
theorem _root_.L2.Same.new {H H' : Hp} {p : Addr} {o : HO} (h : Same H H') (n : H' p = none) : Same H (upd H' p o) := fun a u e => by
  have q := h a u e
  rw [upd_ne (ne_of_none q n)]; exact q
theorem _root_.L2.Same.mut {H H' : Hp} {p : Addr} {o : HO} (h : Same H H') (n : H p = none) : Same H (upd H' p o) := fun a u e => by
  rw [upd_ne (ne_of_none e n)]; exact h a u e
/-! ### the same rules, the written part by its letter -/
section
variable {X : Cx} (K : PySem.W.Frag) {e o : Expr} {es : List Expr} {te ta tv : TE} {t : TA} {tg : Expr} {pos pos' p tpos apos cpos : Pos}
theorem q_list (he : PE X e te) (h : X.K = K := by rfl) : PI X tg e (iList K te) := h ▸ pi_list he
theorem q_enum {elts : List Expr} {kk : Nat} (hm : X.mg "enumerate" = none) (ha : PA X [e] t) (hg : Gl X "enumerate" := by rfl) (hs : starEach [e] X.env = [(false, eval e X.env)] := by rfl) (h : X.K = K := by rfl) :
    PI X (.Tuple elts kk tpos) (.Call (.Name "enumerate" p) [e] [] pos) (iEnum K t) := h ▸ pi_enum hg hm ha hs
theorem q_gtup (n : Nat) {k : Nat} {ts : TGs} (h : PGs X es ts) (hc : X.calm = true := by rfl) (hn : (assignEach es X.env).length = n := by rfl) (hst : (assignEach es X.env).findIdx? (·.1) = none := by rfl) (hK : X.K = K := by rfl) :
    PG X (.Tuple es k pos) (gTL K n ts) := by
  subst hK
  refine ⟨fun pins s σ H v u Q I r q => ?_⟩
  obtain ⟨a, xs, e, h1 | h1, h2, h3⟩ := q
  · exact (pg_tup hc h hn hst).run pins s σ H v u Q I r ⟨a, xs, e, h1, h2, h3⟩
  · exact (pg_unl hc h hn hst).run pins s σ H v u Q I r ⟨a, xs, e, h1, h2, h3⟩
theorem q_truth (ha : PE X e ta) (he : ∀ whole, isTrue e X.env whole = (do let v ← whole; standAt e.pos; holding [v] (truthy v)) := by intro _; rfl) (h : X.K = K := by rfl) :
    PT X e (fun σ H Q => ta σ H fun x H' => ∃ k, TruV K x H' k ∧ Q k H') := h ▸ pt_truth ha he
theorem q_orT {b : Expr} {rest : List Expr} {tb : TE} (ha : PE X e ta) (hb : PE X (.BoolOp .Or (b :: rest) pos) tb) (h : X.K = K := by rfl) : PE X (.BoolOp .Or (e :: b :: rest) pos) (tOrT K ta tb) := h ▸ pe_orT ha hb
theorem q_andT {b : Expr} {rest : List Expr} {tb : TE} (ha : PE X e ta) (hb : PE X (.BoolOp .And (b :: rest) pos) tb) (h : X.K = K := by rfl) : PE X (.BoolOp .And (e :: b :: rest) pos) (tAndT K ta tb) := h ▸ pe_andT ha hb
theorem q_notT (ha : PE X e ta) (h : X.K = K := by rfl) : PE X (.UnaryOp .Not e pos) (tNotT K ta) := h ▸ pe_notT ha
theorem q_fld {f : Str} (ha : PE X o ta) (hb : attributeBase o f X.env (eval o X.env) = eval o X.env := by rfl) (h : X.K = K := by rfl) : PE X (.Attribute o f pos) (tFld K ta f) := h ▸ pe_fld ha hb
theorem q_sfld {f : Str} (ha : PE X o ta) (hv : PE X e tv) (hs : swapsWith e (some (.Attribute o f pos')) pos.line X.env = pure false := by rfl) (h : X.K = K := by rfl) : PS X (.Assign [.Attribute o f pos'] e pos) (sFld K ta tv f) := h ▸ ps_fld ha hv hs
section
variable {name : Str} {T id : String} {r : V → List V → Hp → VK → Prop} {to : TE}
theorem q_bm0 (pa : PlainAttrs T) (slot : Slot T name id) (hty : typeOf (.builtin id) = pure (.type "method_descriptor")) (hm : MtR X id r) (ho : PE X o to)
    (hbase : attributeBase o name X.env (eval o X.env) = eval o X.env := by rfl) (hline : (apos.endLine == cpos.line) = true := by rfl) (h : X.K = K := by rfl) : PE X (.Call (.Attribute o name apos) [] [] cpos) (tBM0 K T r to) := h ▸ pe_bm0 pa slot hty hm ho hbase hline
theorem q_bm (pa : PlainAttrs T) (slot : Slot T name id) (hty : typeOf (.builtin id) = pure (.type "method_descriptor")) (hm : MtR X id r) (ho : PE X o to) (ha : PA X (e :: es) t)
    (hbase : attributeBase o name X.env (eval o X.env) = eval o X.env := by rfl)
    (hfew : ((backTo cpos (starEach (e :: es) X.env)).all (fun x => !x.1) && (backToKw cpos (keywordEach [] X.env)).all (fun x => x.1.isSome)
      && decide ((e :: es).length + ([] : List Keyword).length + (if ([] : List Keyword).isEmpty then 0 else 1) < 30)) = true := by rfl)
    (hline : (apos.endLine == cpos.line) = true := by rfl) (hs : starEach (e :: es) X.env = (false, eval e X.env) :: starEach es X.env := by rfl) (hplain : (backTo cpos (starEach es X.env)).any (·.1) = false := by rfl) (h : X.K = K := by rfl) :
    PE X (.Call (.Attribute o name apos) (e :: es) [] cpos) (tBM K T r to t) := h ▸ pe_bm pa slot hty hm ho ha hbase hfew hline hs hplain
end
theorem m_append : MtR X "list.append" rAppend := mt_append
def dJoin (K : PySem.W.Frag) : V → List V → Hp → VK → Prop := fun x xs H Q => ∃ a p, ∃ ys : List Str, x = .str a ∧ xs = [.ref p] ∧ (SqL K H p (ys.map V.str) ∨ SqT K H p (ys.map V.str)) ∧ (ys.map (·.length)).sum + ys.length * a.length ≤ 16777216 ∧ Q (.str (Txt.join a ys)) H
theorem m_join (h : X.K = K := by rfl) : MtR X "str.join" (dJoin K) := h ▸ mt_join
def dWords : V → List V → Hp → VK → Prop := fun x xs H Q => ∃ a, x = .str a ∧ xs = [] ∧ a.length + 2 ≤ sizeLine ∧ ∀ p, H p = none → Q (.ref p) (upd H p (.lst ((Txt.words a).map V.str)))
theorem m_words : MtR X "str.split" dWords := mt_words
def dSplit : V → List V → Hp → VK → Prop := fun x xs H Q => ∃ a b, x = .str a ∧ xs = [.str b] ∧ (b.length == 0) = false ∧ a.length + 2 ≤ sizeLine ∧ ∀ p, H p = none → Q (.ref p) (upd H p (.lst ((Txt.split a b).map V.str)))
theorem m_split : MtR X "str.split" dSplit := mt_split
end
section
variable {K : PySem.W.Frag} {H : Hp} {Q : VK} {a b : Str} {p : Addr} {ys : List Str}
theorem g_join (z1 : SqL K H p (ys.map V.str) ∨ SqT K H p (ys.map V.str)) (z2 : (ys.map (·.length)).sum + ys.length * a.length ≤ 16777216) (h : Q (.str (Txt.join a ys)) H) : dJoin K (.str a) [.ref p] H Q := ⟨a, p, ys, rfl, rfl, z1, z2, h⟩
theorem g_words (z : a.length + 2 ≤ sizeLine) (h : ∀ p, H p = none → Q (.ref p) (upd H p (.lst ((Txt.words a).map V.str)))) : dWords (.str a) [] H Q := ⟨a, rfl, rfl, z, h⟩
theorem g_split (z1 : (b.length == 0) = false) (z : a.length + 2 ≤ sizeLine) (h : ∀ p, H p = none → Q (.ref p) (upd H p (.lst ((Txt.split a b).map V.str)))) : dSplit (.str a) [.str b] H Q := ⟨a, b, rfl, rfl, z1, z, h⟩
theorem g_start {t : TS} {D : Ends} {σ σ' : L2.St} {H : Hp} (e : σ = σ') (h : t D σ' H) : t D σ H := e ▸ h
end
/-- what comes behind, once for all: R is found where it is used -/
theorem g_all {α : Type} {R : α → Prop} {G : Prop} (main : (∀ c, R c) → G) (rest : ∀ c, R c) : G := main rest
theorem g_allW {α : Type} {W R : α → Prop} {G : Prop} (main : (∀ c, W c → R c) → G) (rest : ∀ c, W c → R c) : G := main rest
theorem hp_same {H H' : Hp} {a : Addr} {o : HO} (s : Same H H') (e : H a = some o) : H' a = some o := s a o e
theorem hp_sx {W : List Addr} {H H' : Hp} {a : Addr} {o : HO} (s : Sx W H H') (n : a ∉ W) (e : H a = some o) : H' a = some o := s a o n e
theorem al {n : Nat} {B : Prop} (h : B) (z : Nat.ble n 16777216 = true := by rfl) : n ≤ sizeLine ∧ B := ⟨by rw [sizeLine_eq]; exact Nat.le_of_ble_eq_true z, h⟩
theorem inV_str {t : Str} {xs : List Str} : inV (.str t) (xs.map V.str) = decide (t ∈ xs) := by
  induction xs with
  | nil => rfl
  | cons x r ih =>
    have e : inV (.str t) ((x :: r).map V.str) = (eqV (.str x) (.str t) || inV (.str t) (r.map V.str)) := rfl
    rw [e, ih]
    have e2 : eqV (.str x) (.str t) = decide (t = x) := by
      show (x == t) = decide (t = x)
      by_cases h : x = t
      · subst h; simp
      · rw [decide_eq_false (fun z => h z.symm)]; simpa using h
    rw [e2, Bool.eq_iff_iff]
    simp
theorem flat_strs (xs : List Str) : (xs.map V.str).all flatV = true := by simp [flatV]
theorem flat_ints (xs : List Int) : (xs.map V.int).all flatV = true := by simp [flatV]
theorem atI_of {α : Type} {xs : List α} {i : Nat} {v : α} (h : xs[i]? = some v) : atI xs (i : Int) = some v := by
  have hl : i < xs.length := (List.getElem?_eq_some_iff.mp h).1
  unfold atI ixN
  rw [if_pos (Int.natCast_nonneg i), if_pos (by omega)]
  show xs[(i : Int).toNat]? = some v
  rw [Int.toNat_natCast]; exact h
theorem atI_map {α : Type} {xs : List α} {f : α → V} {i : Nat} {v : α} (h : xs[i]? = some v) : atI (xs.map f) (i : Int) = some (f v) := atI_of (by rw [List.getElem?_map, h]; rfl)
theorem sqL_same {K : PySem.W.Frag} {H H' : Hp} {a : Addr} {xs : List V} (h : SqL K H a xs) (e : Same H H') : SqL K H' a xs := Same.seq e h
section
variable {K : PySem.W.Frag} {H : Hp} {Q : VK} {p : Addr}
theorem g_ip {f : Int → Int → Int} {i j : Int} (h : Q (.int (f i j)) H) : ipI f (.int i) (.int j) H Q := ⟨i, j, rfl, rfl, h⟩
theorem g_rU {g : Int → V} {i : Int} (h : Q (g i) H) : rU g (.int i) H Q := ⟨i, rfl, h⟩
theorem g_inLs {t : Str} {ns : List Str} (z1 : SqL K H p (ns.map V.str) ∨ SqT K H p (ns.map V.str)) (h : Q (.bl (decide (t ∈ ns))) H) : dIn K (.str t) (.ref p) H Q := ⟨_, z1, rfl, flat_strs ns, by rw [inV_str]; exact h⟩
theorem g_ninLs {t : Str} {ns : List Str} (z1 : SqL K H p (ns.map V.str) ∨ SqT K H p (ns.map V.str)) (h : Q (.bl (!decide (t ∈ ns))) H) : dNotIn K (.str t) (.ref p) H Q := ⟨_, z1, rfl, flat_strs ns, by rw [inV_str]; exact h⟩
end
section
variable {K : PySem.W.Frag} {H : Hp} {p C dx : Addr} {fs : List (Str × V)} {f : Str} {v : V}
theorem g_gf {Z : V → Prop} (z1 : H p = some (.ins C dx fs)) (z2 : Cls K C) (z3 : NoAttr K C f) (z4 : fs.lookup f = some v) (h : Z v) : ∃ a C dx fs v, V.ref p = .ref a ∧ H a = some (.ins C dx fs) ∧ Cls K C ∧ NoAttr K C f ∧ fs.lookup f = some v ∧ Z v := ⟨p, C, dx, fs, v, rfl, z1, z2, z3, z4, h⟩
theorem g_sf {Z : Hp → Prop} (z1 : H p = some (.ins C dx fs)) (z2 : Cls K C) (z3 : NoAttr K C f) (z4 : fs.length < 1000) (h : Z (upd H p (.ins C dx (putF f v fs)))) :
    ∃ a C dx fs, V.ref p = .ref a ∧ H a = some (.ins C dx fs) ∧ Cls K C ∧ NoAttr K C f ∧ fs.length < 1000 ∧ Z (upd H a (.ins C dx (putF f v fs))) := ⟨p, C, dx, fs, rfl, z1, z2, z3, z4, h⟩
end
/-! ### data: lists of texts, of ints compared -/
section
variable {K : PySem.W.Frag} {H : Hp} {Q : VK} {p q : Addr}
/-- texts of signs that are signs -/
def Sok (xs : List Str) : Prop := ∀ x ∈ xs, PyData.strOk x = true
theorem sok_asc {x : Str} (h : ∀ c ∈ x.cps.toList, c ≤ 127) : PyData.strOk x = true := by
  unfold PyData.strOk
  rw [← Array.all_toList, List.all_eq_true]
  intro c hc
  have := h c hc
  exact decide_eq_true (by omega)
end
theorem iteNT {A B : Prop} (h : B) : if (!true) = true then A else B := iteF h
theorem iteNF {A B : Prop} (h : A) : if (!false) = true then A else B := iteT h
theorem log2_of {n k : Nat} (h0 : 0 < k) (h : n < 2 ^ k) : n.log2 < k := by
  by_cases z : n = 0
  · subst z; simpa using h0
  · exact (Nat.log2_lt z).mpr h
theorem log2_1000 {d : Int} (h0 : 0 ≤ d) (h1 : d < 2 ^ 120) : d.natAbs.log2 < 1920 := Nat.lt_trans (log2_of (k := 120) (by decide) (by omega)) (by decide)
end NL
/-! own exception classes over any built-in one (ValueError, LookupError, RuntimeError) -/
namespace NL
open PySem L2
/-- own classes, then a given rest -/
def refsB (tl : List Value) : List Value → Bool
  | .ref _ :: r => refsB tl r
  | l => decide (l = tl)
theorem refsB_cut {tl : List Value} : ∀ {l : List Value}, refsB tl l = true → l = tl ∨ ∃ c r, l = .ref c :: r ∧ refsB tl r = true
  | [], h => .inl (of_decide_eq_true h)
  | a :: r, h => by
    cases a with
    | ref c => exact .inr ⟨c, r, rfl, h⟩
    | _ => exact .inl (of_decide_eq_true h)
theorem refsB_has {tl : List Value} (n : String) : ∀ {l : List Value}, refsB tl l = true → l.contains (.type n) = tl.contains (.type n) := fun {l} => by
  induction l with
  | nil => intro h; rcases refsB_cut h with e | ⟨_, _, e, _⟩
           · rw [← e]
           · cases e
  | cons a r ih =>
    intro h
    rcases refsB_cut h with e | ⟨c, q, e, h2⟩
    · rw [← e]
    · cases e
      rw [List.contains_cons, ih h2] <;> rfl
theorem refsB_goes {tl : List Value} {v : Value} (p : PySem.refuseLoop v "__setattr__" tl = pure ()) : ∀ {l : List Value}, refsB tl l = true → PySem.refuseLoop v "__setattr__" l = pure () := fun {l} => by
  induction l with
  | nil => intro h; rcases refsB_cut h with e | ⟨_, _, e, _⟩
           · rw [e]; exact p
           · cases e
  | cons a r ih =>
    intro h
    rcases refsB_cut h with e | ⟨c, q, e, h2⟩
    · rw [e]; exact p
    · cases e
      rw [PySem.refuseLoop_ref]
      exact ih h2
/-- what is known of a built-in exception class that an own one comes from -/
def BaseT (nw : String) (tl : List Value) : Prop := ∃ B ini, ExcBaseFacts B nw ini tl ∧ (∀ v : Value, PySem.refuseLoop v "__setattr__" tl = pure ()) ∧ tl.contains (.type "object") = true
theorem baseT_val : BaseT "ValueError.__new__" [.type "ValueError", .type "Exception", .type "BaseException", .type "object"] := ⟨_, _, F.excBase_ValueError, F.store_ValueError.passes, by decide +kernel⟩
theorem baseT_look : BaseT "LookupError.__new__" [.type "LookupError", .type "Exception", .type "BaseException", .type "object"] := ⟨_, _, F.excBase_LookupError, F.store_LookupError.passes, by decide +kernel⟩
theorem baseT_run : BaseT "RuntimeError.__new__" [.type "RuntimeError", .type "Exception", .type "BaseException", .type "object"] := ⟨_, _, F.excBase_RuntimeError, F.store_RuntimeError.passes, by decide +kernel⟩
/-- an own exception class with a dict -/
structure OexG (K : PySem.W.Frag) (C : Addr) : Prop where
  cls : ∃ nm q N bs bm sn sub ab col dd k0 k1 k2 k3 k5 nw tl, K.lookup C = some (excClassObj nm q C N bs bm true sn sub ab col dd k0 k1 k2 k3 k5 nw) ∧ refsB tl bm = true ∧ BaseT nw tl
  sa : PySem.W.findIn K (.ref C) "__setattr__" = some (some (.builtin "object.__setattr__"))
  exC : PySem.W.subIn K (.ref C) (.type "BaseException") = some true
  tyC : PySem.W.typeIn K (.ref C) = some (.type "type")
  kC : PySem.W.keepIn K (.ref C) = true
section
open Builtin Builtin.ObjectAttr
variable {P : Program} {w : World} {A : Around} {R : Result → Shared → Prop} {h : Heap} {gs : Array GenState} {dr : Drawn} {tk : Nat} {os : OsState}
/-- the first field of an exception -/
theorem osa_first {K : PySem.W.Frag} {f : Str} {ft : Tok} {u : Value} {x C : Addr} {fv : Array Value} {cd : ClassData} {tl : List Value} (kin : K.In h) (hx : h.get? x = some { cls := .ref C, data := .fields fv }) (hc : PySem.W.clsIn K C = some cd)
    (hm : refsB tl cd.mro = true) (p : PySem.refuseLoop (.ref x) "__setattr__" tl = pure ()) (ho : tl.contains (.type "object") = true) (hd : cd.hasDict = true) (na : PySem.W.findIn K (.ref C) f = some none)
    (k : ∀ h' t' dx, (∀ b o, b ≠ x → h.get? b = some o → h'.get? b = some o) → h.objs.size ≤ dx → dx ≠ x → h'.get? x = some { cls := .ref C, dict := some dx, data := .fields fv } → h'.Ns1 dx (fun y => if y = f then some u else none) → R (.ok (.ret .none)) ⟨h', gs, dr, t', os⟩) :
    codeAny (model P w) A (.call (.builtin "object.__setattr__") ⟨[.ref x, .str f ft, u], []⟩) R ⟨h, gs, dr, tk, os⟩ := by
  have J : PySem.W.InstAt h x { cls := .ref C, data := .fields fv } C none := ⟨hx, rfl, rfl, trivial⟩
  have O := F.store_object
  have hob : cd.mro.contains (.type "object") = true := (refsB_has "object" hm).trans ho
  have hne : cd.mro.isEmpty = false := by
    cases q : cd.mro with
    | nil => rw [q] at hob; cases hob
    | cons => rfl
  have far : x ≠ h.objs.size := Nat.ne_of_lt (Heap.lt_size hx)
  have isO : PySem.W.Looks (model P w) h (isInstance (.ref x) (.type "object")) true := J.type.andThen (PySem.W.looks_mroIn kin (by unfold PySem.W.mroIn; rw [hc, Option.bind_some, hne, if_neg Bool.false_ne_true, hob]))
  refine codeAny_call_builtin O.slot.plain O.entry (@PySem.W.check_slot (model P w) _ _ ⟨h, gs, dr, tk, os⟩ "object.__setattr__" "object" "__setattr__" (.ref x) [.str f ft, u] [] _ O.kind O.split isO (O.args (.ref x) (.str f ft) u) ?_)
  have m1 : PySem.W.Looks (model P w) h (mroOf (.ref C)) cd.mro := (PySem.W.looks_clsIn kin hc).andThen .now
  have m2 : PySem.W.Looks (model P w) h (storeTaker? none) none := .now
  have m3 : PySem.W.Looks (model P w) h (classData C) cd := PySem.W.looks_clsIn kin hc
  rw [PySem.W.osa_eq, refuse_eq]
  refine wpAny_bind (wpAny_bind (J.type.at (wpAny_bind (m1.at ?_))))
  rw [refsB_goes p hm]
  refine wpAny_pure (wpAny_bind (J.type.at (wpAny_bind ((PySem.W.looks_findIn kin na).at (wpAny_bind (m2.at ?_))))))
  show wpAny _ _ (storeInOwnDict (.ref x) (.ref C) (.str f ft) f u false) _ _ _
  obtain ⟨_, _, _, _, _, b, _, _, _, _, _⟩ := cd
  obtain rfl : b = true := hd
  unfold storeInOwnDict ownDictForStores
  repeat (first | with_reducible refine PySem.HandSPX.store_in_new ?_ ?_ | with_reducible refine wpAny_loadPart_at hx ?_ | with_reducible refine m3.at ?_ | wp_step)
  · exact ⟨_, #[], _, (Heap.get?_update_ne _ _ _ _ far.symm).trans (Heap.get?_push_at rfl rfl), rfl, (fun e z => absurd z (by simp)), fun _ => rfl⟩
  · intro h' t' n' sb
    have px : (h.push { cls := .type "dict", data := .dict #[] }).get? x = some { cls := .ref C, data := .fields fv } := Heap.get?_push_of_some _ hx
    exact k h' t' h.objs.size (fun b o hb e => (sb.2 b (Nat.ne_of_lt (Heap.lt_size e))).trans ((Heap.get?_update_ne _ _ _ _ hb).trans (Heap.get?_push_of_some _ e))) (Nat.le_refl _) far.symm ((sb.2 x far).trans (Heap.get?_update_self _ px rfl)) n'
end
section
variable {X : Cx} {pins : List (Addr × Obj)} {σ : L2.St} {H : Hp} {s : Shared} {a C : Addr} {f : Str} {y : V} {u : Value} {Q : Unit → Shared → Prop} {E : Value → Shared → Prop} {A : Around}
theorem clsIn_exc {K : PySem.W.Frag} {nm q : Str} {C N : Addr} {bs bm sub : List Value} {sn : List Str} {ab : Bool} {col : Option Bool} {dd : Option Addr} {k0 k1 k2 k3 k5 : Option Value} {nw : String} (e : K.lookup C = some (excClassObj nm q C N bs bm true sn sub ab col dd k0 k1 k2 k3 k5 nw)) :
    ∃ cd, PySem.W.clsIn K C = some cd ∧ cd.mro = .ref C :: bm ∧ cd.hasDict = true := by
  refine ⟨_, by unfold PySem.W.clsIn; rw [e] <;> rfl, rfl, rfl⟩
/-- self.f = y, the first one -/
theorem ost_first (T : OexG X.K C) (I : Inv X pins σ H s) (e : H a = some (exo a C none)) (hno : PySem.W.findIn X.K (.ref C) f = some none) (ry : RelV y u)
    (k : ∀ dx s', H dx = none → dx ≠ a → Inv X pins σ (upd (upd H dx (exd dx [(f, y)])) a (exo a C (some dx))) s' → Q () s') : wpAny (model X.prog X.w) A (setAttr (.ref a) f u) Q E s := by
  obtain ⟨nm, q, N, bs, bm, sn, sub, ab, col, dd, k0, k1, k2, k3, k5, nw, tl, hC, hbm, B, ini, FB, hp, hob⟩ := T.cls
  obtain ⟨cd, hcd, hmro, hdict⟩ := clsIn_exc hC
  obtain ⟨t1, at1⟩ := exo_at I.hok e
  obtain ⟨hh, gs, dr, tk, os⟩ := s
  refine PySem.W.set_plain I.kIn (ox := { cls := .ref C, dict := none, data := .fields #[.ref t1, .none, .none, .none, .bool false, .none] }) (od := none) ⟨at1, rfl, rfl, trivial⟩ T.sa ?_
  refine osa_first (tl := tl) I.kIn at1 hcd (by rw [hmro]; exact hbm) (hp _) hob hdict hno fun h' t' dx kp far ne hx hn => ?_
  have nD : H dx = none := I.hok.fresh far
  have offD : ∀ {b : Addr} {o : Obj}, hh.get? b = some o → b ≠ dx := fun z => Nat.ne_of_lt (Nat.lt_of_lt_of_le (Heap.lt_size z) far)
  have offA : ∀ {b : Addr}, H b = none → b ≠ a := fun n z => by rw [z, e] at n; cases n
  have U1 : Un X.fs [] H (upd (upd H dx (exd dx [(f, y)])) a (exo a C (some dx))) hh h' := {
    keep := fun b o z n _ _ => kp b o (offA n) z
    slot := fun b o z n _ _ => ⟨o.slots, kp b o (offA n) z⟩
    free := fun b o z n _ => (upd_ne (offA n)).trans ((upd_ne (offD z)).trans n)
    there := fun b o z _ => by
      by_cases ba : b = a
      · rw [ba]; exact ⟨_, hx⟩
      · exact ⟨_, kp b o ba z⟩
    tups := fun b xs z => (upd_ne (at_ne e z exo_tup)).trans ((upd_ne (ne_of_none z nD)).trans z)
    frzs := fun b o v z => (upd_ne (at_ne e z exo_frz)).trans ((upd_ne (ne_of_none z nD)).trans z)
    tbls := fun b ps z => ⟨#[], by rw [upd_ne (at_ne e z exo_tbl), upd_ne (ne_of_none z nD), z, Array.append_empty]⟩ }
  refine k dx _ nD ne (I.un (t' := t') U1 fun b o z => ?_)
  by_cases ba : b = a
  · rw [ba, upd_same] at z
    cases z
    rw [ba]
    exact exo_ok hx
  rw [upd_ne ba] at z
  by_cases bd : b = dx
  · rw [bd, upd_same] at z
    cases z
    rw [bd]
    exact exd_ok hn (relO_put (fs := []) ry fun _ => True.intro)
  rw [upd_ne bd] at z
  refine (I.hok b o z).stay (fun c v hc w => kp c v ?_ w) (fun c hc => (upd_ne (at_ne e hc exo_own)).trans ((upd_ne (ne_of_none hc nD)).trans hc)) fun c xs hc => (upd_ne (at_ne e hc exo_tup)).trans ((upd_ne (ne_of_none hc nD)).trans hc)
  rcases hc with hc | hc
  · rw [hc]; exact ba
  · exact at_ne e hc exo_own
end
/-- self.f = e, the first field of an exception -/
def tOf (K : PySem.W.Frag) (f : Str) (to te : TE) : TS := fun D σ H => te σ H fun y H1 => to σ H1 fun x H2 => ∃ a C : Addr, x = .ref a ∧ OexG K C ∧ PySem.W.findIn K (.ref C) f = some none ∧ H2 a = some (exo a C none) ∧
  ∀ dx, H2 dx = none → dx ≠ a → D.nx σ (upd (upd H2 dx (exd dx [(f, y)])) a (exo a C (some dx)))
section
variable {X : Cx} {o e : Expr} {es : List Expr} {to te : TE} {ta : TA} {f : Str} {p p' pos : Pos}
theorem ps_of (ho : PE X o to) (he : PE X e te) (hs : swapsWith e (some (.Attribute o f p')) pos.line X.env = pure false := by rfl) : PS X (.Assign [.Attribute o f p'] e pos) (tOf X.K f to te) := by
  refine ⟨fun pins s σ H D I h => ?_⟩
  refine plainObj_wpAny_Assign_Attribute (thn (he.run pins s σ H _ I h) fun v s1 ⟨y, H1, I1, r1, q1⟩ => thn (ho.run pins s1 σ H1 _ I1 q1) fun u s2 ⟨x, H2, I2, r2, a, C, ex, T, no, ea, q⟩ => ?_) hs
  subst ex
  obtain rfl : u = .ref a := r2
  exact ost_first T I2 ea no r1 fun dx s' n ne J => ⟨σ, _, J, q dx n ne⟩
/-- C(e, ..) for an own exception class C -/
theorem pmk_g {CX : CXT} {x : Str} {C fI : Addr} {k : Nat} {fd : FuncData} {ps : List Str} {sp : Sp} (T : OexG X.K C) (iC : PySem.W.findIn X.K (.ref C) "__init__" = some (some (.ref fI))) (tI : PySem.W.typeIn X.K (.ref fI) = some (.type "function"))
    (F1 : FnOk X.prog X.w X.K X.mg X.base CX k fI fd ps sp) (hr : Room (k + 1) X.A) (hb : Binds X.K fd ps []) (hx : Passes CX X (fun _ _ _ => False)) (hg : Gl X x) (hm : X.mg x = some (.ref C)) (ha : PA X (e :: es) ta)
    (hdb : (x == ("__debug__" : Str)) = false := by decide) (he : starEach (e :: es) X.env = (false, eval e X.env) :: starEach es X.env := by rfl) (hpl : (backTo pos (starEach es X.env)).any (·.1) = false := by rfl) :
    PMk X (.Call (.Name x p) (e :: es) [] pos) (tMkO C sp [] ta) := by
  intro pins s σ H Q I h
  obtain ⟨nm, q, N, bs, bm, sn, sub, ab, col, dd, k0, k1, k2, k3, k5, nw, tl, hC, hbm, B, ini, FB, hp, hob⟩ := T.cls
  refine wpAny_Call_Name_kw (ld_glob I hg hm ?_ hdb)
  refine PySem.W.callWith_K (h₀ := X.base) I.ok.mod.kin T.kC (thn (ha.run pos pins s σ H _ I h) fun us s1 ⟨vs, H1, I1, r1, hz, q1⟩ => ⟨I1.kIn, ?_⟩) he hpl
  show wpAny _ _ (call (.ref C) us) _ _ _
  obtain ⟨hh, gs, dr, tk, os⟩ := s1
  generalize hA : hh.objs.size + 1 = A1
  have le : hh.objs.size ≤ A1 := by omega
  have nA : H1 A1 = none := I1.hok.fresh le
  have hq := q1 A1 nA
  have kk : ∀ b o, hh.get? b = some o → ((hh.push (PySem.W.kdv_tup us)).push (PySem.HandSPX.excO C hh.objs.size)).get? b = some o := fun b o z => Heap.get?_push_of_some _ (Heap.get?_push_of_some _ z)
  have at1 : ((hh.push (PySem.W.kdv_tup us)).push (PySem.HandSPX.excO C hh.objs.size)).get? A1 = some (PySem.HandSPX.excO C hh.objs.size) := by subst hA; heap_get
  have I2 : Inv X pins σ (upd H1 A1 (exo A1 C none)) ⟨(hh.push (PySem.W.kdv_tup us)).push (PySem.HandSPX.excO C hh.objs.size), gs, dr, tk, os⟩ := I1.laid (t' := tk) kk le (exo_ok at1)
  have r2 : Vals (V.ref A1 :: (vs ++ [])) (Value.ref A1 :: us) := .cons rfl (by rw [List.append_nil]; exact r1)
  have hl : (Value.ref A1 :: us).length = ps.length := r2.length.symm.trans (F1.len _ _ _ _ hq)
  have hus : us.length ≤ sizeLine := by
    have := Paired.length r1
    rw [← this, sizeLine_eq]
    omega
  have hb2 := hb _ (Value.ref A1 :: us) I2.kIn (by rw [List.append_nil]; exact hl)
  rw [List.append_nil] at hb2
  refine wpAny_call (PySem.HandSPX.call_own FB (fun n => refsB_has n hbm) (I1.kIn _ _ hC) (PySem.W.looks_findIn I1.kIn iC) (fun z => PySem.W.bind_fn I1.kIn z tI) hus ?_)
  rw [hA]
  refine codeAny_mono (F1.run _ X.stack _ _ ⟨Value.ref A1 :: us, []⟩ (Value.ref A1 :: us) _ _ (fun _ _ _ => False) (hr.make C us []) (I2.env0.make C us []) hb2 r2 hq) fun r s' z => ?_
  cases r with
  | error er => exact hx pins σ _ _ er s' I2 z
  | ok fl =>
    cases fl with
    | ret v =>
      obtain ⟨v', H2, o2, b2, un2, ok2, rv, ev, d, fs, ea, ed, n1, q2⟩ := z
      subst ev
      obtain ⟨h2, g2, d2, t2, o3⟩ := s'
      exact ⟨rv, mk_end (raises_own T.exC T.tyC) I1 le kk un2 ok2 o2 b2 ea ed n1 q2⟩
    | _ => exact z.elim
end
/-- asked of the written part -/
def oexgB (K : PySem.W.Frag) (C : Addr) : Bool := (match K.lookup C with
  | some ⟨.type t, _, .cls cd, sl⟩ => decide (t = "type") && (match cd.mro, sl.toList with
    | .ref c :: bm, [_, _, _, _, some (.builtin n), _] => decide (c = C) && (!cd.hasDel && (cd.hasDict && ((decide (n = "ValueError.__new__") && refsB [.type "ValueError", .type "Exception", .type "BaseException", .type "object"] bm) ||
      ((decide (n = "LookupError.__new__") && refsB [.type "LookupError", .type "Exception", .type "BaseException", .type "object"] bm) || (decide (n = "RuntimeError.__new__") && refsB [.type "RuntimeError", .type "Exception", .type "BaseException", .type "object"] bm)))))
    | _, _ => false)
  | _ => false) && (decide (PySem.W.findIn K (.ref C) "__setattr__" = some (some (.builtin "object.__setattr__"))) && (decide (PySem.W.subIn K (.ref C) (.type "BaseException") = some true) && (decide (PySem.W.typeIn K (.ref C) = some (.type "type")) && PySem.W.keepIn K (.ref C))))
theorem oexgB_ok {K : PySem.W.Frag} {C : Addr} (h : oexgB K C = true) : OexG K C := by
  unfold oexgB at h
  simp only [Bool.and_eq_true, decide_eq_true_eq] at h
  obtain ⟨h0, h1, h2, h3, h4⟩ := h
  refine ⟨?_, h1, h2, h3, h4⟩
  split at h0
  · rename_i t dd cd sl ho
    simp only [Bool.and_eq_true, decide_eq_true_eq] at h0
    obtain ⟨rfl, h0⟩ := h0
    split at h0
    · rename_i c bm k0 k1 k2 k3 n k5 hm hs
      simp only [Bool.and_eq_true, Bool.or_eq_true, decide_eq_true_eq, Bool.not_eq_true'] at h0
      obtain ⟨rfl, del, hd, hr⟩ := h0
      have key : ∃ tl, refsB tl bm = true ∧ BaseT n tl := by
        rcases hr with ⟨rfl, q⟩ | ⟨rfl, q⟩ | ⟨rfl, q⟩
        · exact ⟨_, q, baseT_val⟩
        · exact ⟨_, q, baseT_look⟩
        · exact ⟨_, q, baseT_run⟩
      obtain ⟨tl, q, bt⟩ := key
      obtain ⟨nm, bs, mro, ns, qn, hd', sn, sub, ab, col, del'⟩ := cd
      dsimp only at hm del hd
      subst hm del hd
      have hsl : sl = #[k0, k1, k2, k3, some (.builtin n), k5] := by
        obtain ⟨l⟩ := sl
        simp only at hs
        rw [hs]
      subst hsl
      exact ⟨nm, qn, ns, bs, bm, sn, sub, ab, col, dd, k0, k1, k2, k3, k5, n, tl, ho, q, bt⟩
    · cases h0
  · cases h0
end NL
namespace NL
open PySem L2
/-! ### own exceptions of one field -/
/-- what __init__(self, f): self.f = f does to the exception that is being made -/
def sp_xi (C : Addr) (f : Str) : Sp := fun vs H Q _ => ∃ (a : Addr) (v : V), vs = [.ref a, v] ∧ H a = some (exo a C none) ∧
  ∀ dx, H dx = none → dx ≠ a → Q .non (upd (upd H dx (exd dx [(f, v)])) a (exo a C (some dx)))
/-- what is known of an own exception class x with the field f -/
structure XC (P : Program) (w : World) (K : PySem.W.Frag) (mg : Str → Option Value) (base : Heap) (k : Nat) (x f : Str) (C : Addr) : Prop where
  g : mg x = some (.ref C)
  o : OexG K C
  no : PySem.W.findIn K (.ref C) f = some none
  fn : ∃ (fI : Addr) (fd : FuncData) (ps : List Str), PySem.W.findIn K (.ref C) "__init__" = some (some (.ref fI)) ∧ PySem.W.typeIn K (.ref fI) = some (.type "function") ∧ Binds K fd ps [] ∧ FnOk P w K mg base (L2.CX P w) k fI fd ps (sp_xi C f)
theorem del_upd {H : Hp} {a d : Addr} {o1 o2 o3 o4 : HO} (ha : H a = none) (hd : d ≠ a) : upd (del (upd (upd (upd H a o1) d o2) a o3) a) d o4 = upd H d o4 := by
  funext b
  by_cases e : b = d
  · subst e; rw [upd_same, upd_same]
  · rw [upd_ne e, upd_ne e]
    by_cases e2 : b = a
    · subst e2; rw [del_same, ha]
    · rw [del_ne e2, upd_ne e2, upd_ne e, upd_ne e2]
section
variable {X : Cx} {k : Nat} {x f : Str} {C : Addr} {e : Expr} {es : List Expr} {ta : TA} {p pos pos2 : Pos}
def tMkX (C : Addr) (f : Str) (ta : TA) : L2.St → Hp → XK → Prop := fun σ H Q => ta σ H fun vs H1 => ∃ v, vs = [v] ∧ ∀ d, H1 d = none → Q (.ref C) (some d) (upd H1 d (.xd [(f, v)]))
theorem pmk_x (T : XC X.prog X.w X.K X.mg X.base k x f C) (hr : Room (k + 1) X.A) (ha : PA X (e :: es) ta) (hg : Gl X x := by rfl) (hdb : (x == ("__debug__" : Str)) = false := by decide)
    (he : starEach (e :: es) X.env = (false, eval e X.env) :: starEach es X.env := by rfl) (hpl : (backTo pos (starEach es X.env)).any (·.1) = false := by rfl) :
    PMk X (.Call (.Name x p) (e :: es) [] pos) (tMkX C f ta) := by
  obtain ⟨fI, fd, ps, iC, tI, hb, F1⟩ := T.fn
  have ha' : PA X (e :: es) (fun σ H Q => ta σ H fun vs H1 => Q vs H1) := ha
  intro pins s σ H Q I h
  have base := pmk_g (p := p) T.o iC tI F1 hr hb passL hg T.g (ta := fun σ H Q => ∃ (R : List V → Hp → Prop), ta σ H R ∧ ∀ vs H', R vs H' → Q vs H')
    (⟨fun pos pins s σ H Q I q => by
      obtain ⟨R, h1, h2⟩ := q
      exact thn (ha.run pos pins s σ H R I h1) fun us s1 ⟨vs, H1, I1, r, q1⟩ => ⟨vs, H1, I1, r, h2 vs H1 q1⟩⟩) hdb he hpl
  refine base pins s σ H Q I ⟨_, h, fun vs H1 hv => ?_⟩
  obtain ⟨v, rfl, hv⟩ := hv
  refine ⟨by show 1 ≤ 1000; decide, fun a ha1 => ⟨a, v, rfl, upd_same, fun dx hdx hne => ⟨rfl, dx, [(f, v)], upd_same, ?_, ?_, ?_⟩⟩⟩
  · rw [upd_ne hne, upd_same]
  · have := hdx
    rw [upd_ne hne] at this
    exact this
  · rw [del_upd ha1 hne]
    rw [upd_ne hne] at hdx
    exact hv dx hdx
/-- raise x(e) -/
def tRaiseX (C : Addr) (f : Str) (W : WX) (ta : TA) : TS := fun _ σ H => ta σ H fun vs H1 => ∃ v, vs = [v] ∧ ∀ d, H1 d = none → W (.ref C) (some d) σ (upd H1 d (.xd [(f, v)]))
theorem q_raise {W : WX} (T : XC X.prog X.w X.K X.mg X.base k x f C) (tk : Takes X W) (hr : Room (k + 1) X.A) (ha : PA X (e :: es) ta) (hc : X.calm = true := by rfl) (hg : Gl X x := by rfl) (hdb : (x == ("__debug__" : Str)) = false := by decide)
    (he : starEach (e :: es) X.env = (false, eval e X.env) :: starEach es X.env := by rfl) (hpl : (backTo pos (starEach es X.env)).any (·.1) = false := by rfl) :
    PS X (.Raise (some (.Call (.Name x p) (e :: es) [] pos)) none pos2) (tRaiseX C f W ta) := ps_raise hc tk (pmk_x T hr ha hg hdb he hpl)
theorem g_raise {C : Addr} {f : Str} {W : WX} {ta : TA} {D : Ends} {σ : L2.St} {H : Hp} (h : ta σ H fun vs H1 => ∃ v, vs = [v] ∧ ∀ d, H1 d = none → W (.ref C) (some d) σ (upd H1 d (.xd [(f, v)]))) : tRaiseX C f W ta D σ H := h
theorem g_raised {v : V} {Z : V → Prop} (h : Z v) : ∃ u, [v] = [u] ∧ Z u := ⟨v, rfl, h⟩
end
/-! ### in an except suite: isinstance of the exception that is held, its field -/
/-! ### an own class made, its methods called; what is raised goes to the taker -/
structure MkC (P : Program) (w : World) (K : PySem.W.Frag) (mg : Str → Option Value) (base : Heap) (k : Nat) (x : Str) (C : Addr) (ps : List Str) (sp : Sp) : Prop where
  g : mg x = some (.ref C)
  fn : ∃ (f : Addr) (fd : FuncData), Mk K C f ∧ Binds K fd ps [] ∧ FnOk P w K mg base (L2.CX P w) k f fd ps sp
structure MtC (P : Program) (w : World) (K : PySem.W.Frag) (mg : Str → Option Value) (base : Heap) (k : Nat) (C : Addr) (m : Str) (ps : List Str) (sp : Sp) : Prop where
  c : Cls K C
  fn : ∃ (f : Addr) (fd : FuncData), Meth K C m f ∧ PySem.W.fnIn K f = true ∧ Binds K fd ps [] ∧ FnOk P w K mg base (L2.CX P w) k f fd ps sp
section
variable {X : Cx} {k : Nat} {x m : Str} {C : Addr} {e o : Expr} {es : List Expr} {t : TA} {ta : TE} {p pos apos : Pos} {ps : List Str} {sp : Sp} {W : WX}
def tMakeS (C : Addr) (sp : Sp) (E : L2.St → XK) (t : TA) : TE := fun σ H Q => t σ H fun vs H1 => ∀ x dx, H1 x = none → H1 dx = none → dx ≠ x →
  sp (.ref x :: vs) (upd (upd H1 dx (.own x)) x (.ins C dx [])) (fun v H2 => v = .non ∧ Q (.ref x) H2) (E σ)
theorem run_makeS {f : Addr} {fd : FuncData} {pins : List (Addr × Obj)} {σ : L2.St} {H : Hp} {s : Shared} {Q : VK} {us : List Value} {vs : List V} (M : Mk X.K C f) (F : FnOk X.prog X.w X.K X.mg X.base (L2.CX X.prog X.w) k f fd ps sp) (hr : Room (k + 1) X.A) (hb : Binds X.K fd ps [])
    (tk : Takes X W) (I : Inv X pins σ H s) (r : Vals vs us)
    (h : ∀ x dx, H x = none → H dx = none → dx ≠ x → sp (.ref x :: vs) (upd (upd H dx (.own x)) x (.ins C dx [])) (fun v H2 => v = .non ∧ Q (.ref x) H2) (WE W σ)) :
    wpAny (model X.prog X.w) X.A (call (.ref C) us) (EP X pins σ Q) X.xe s := by
  have hq := h (s.heap.objs.size + 1) s.heap.objs.size (I.hok.fresh (Nat.le_succ _)) (I.hok.fresh (Nat.le_refl _)) (Nat.ne_of_lt (Nat.lt_succ_self _))
  have I2 := Inv.made (C := C) I
  have r2 : Vals (V.ref (s.heap.objs.size + 1) :: vs) (Value.ref (s.heap.objs.size + 1) :: us) := .cons rfl r
  have hl : (Value.ref (s.heap.objs.size + 1) :: us).length = ps.length := by
    have e := r2.length
    rw [F.len _ _ _ _ hq] at e
    exact e.symm
  have hb2 := hb _ (Value.ref (s.heap.objs.size + 1) :: us) I2.kIn (by rw [List.append_nil]; exact hl)
  rw [List.append_nil] at hb2
  refine wpAny_call (make_map (f := f) I.kIn M.makes M.init (beq_iff_eq.mp M.fn) (codeAny_mono (F.run _ X.stack _ _ ⟨Value.ref (s.heap.objs.size + 1) :: us, []⟩ (Value.ref (s.heap.objs.size + 1) :: us) _ _ (WE W σ) (hr.make C us [])
    (I2.env0.make C us []) hb2 r2 hq) fun r s' hq' => ?_))
  cases r with
  | error e => exact passAt tk σ pins _ _ e s' I2 hq'
  | ok fl =>
    cases fl with
    | ret u =>
      obtain ⟨v, H', I3, rv, ev, q3⟩ := I2.after hq'
      subst ev
      exact ⟨rv, ⟨V.ref (s.heap.objs.size + 1), H', I3, rfl, q3⟩⟩
    | next => exact False.elim hq'
    | brk => exact False.elim hq'
    | cont => exact False.elim hq'
theorem q_make (M : MkC X.prog X.w X.K X.mg X.base k x C ps sp) (tk : Takes X W) (hr : Room (k + 1) X.A) (ha : PA X (e :: es) t) (hg : Gl X x := by rfl) (hdb : (x == ("__debug__" : Str)) = false := by decide)
    (he : starEach (e :: es) X.env = (false, eval e X.env) :: starEach es X.env := by rfl) (hpl : (backTo pos (starEach es X.env)).any (·.1) = false := by rfl) :
    PE X (.Call (.Name x p) (e :: es) [] pos) (tMakeS C sp (WE W) t) := by
  obtain ⟨f, fd, M1, hb, F⟩ := M.fn
  refine ⟨fun pins s σ H Q I h => ?_⟩
  refine wpAny_Call_Name_kw (ld_glob I hg M.g ?_ hdb)
  refine PySem.W.callWith_K (h₀ := X.base) I.ok.mod.kin M1.kp (thn (ha.run pos pins s σ H _ I h) fun us s1 ⟨vs, H1, I1, r, q⟩ => ⟨I1.kIn, ?_⟩) he hpl
  exact run_makeS M1 F hr hb tk I1 r q
theorem g_make {C : Addr} {sp : Sp} {E : L2.St → XK} {t : TA} {σ : L2.St} {H : Hp} {Q : VK} (h : t σ H fun vs H1 => ∀ x dx, H1 x = none → H1 dx = none → dx ≠ x →
    sp (.ref x :: vs) (upd (upd H1 dx (.own x)) x (.ins C dx [])) (fun v H2 => v = .non ∧ Q (.ref x) H2) (E σ)) : tMakeS C sp E t σ H Q := h
/-- o.m(..) -/
def tMethS (C : Addr) (m : Str) (sp : Sp) (E : L2.St → XK) (ta : TE) (t : TA) : TE := fun σ H Q => ta σ H fun x H1 => ∃ a dx fs, x = .ref a ∧ H1 a = some (.ins C dx fs) ∧ fs.lookup m = none ∧ t σ H1 fun vs H2 => sp (x :: vs) H2 Q (E σ)
theorem q_meth {pl : Sem Bool} (M : MtC X.prog X.w X.K X.mg X.base k C m ps sp) (tk : Takes X W) (hr : Room k X.A) (he : PE X o ta) (ha : PA X (e :: es) t)
    (hst : starEach (e :: es) X.env = (false, eval e X.env) :: starEach es X.env := by rfl) (hpl : (backTo pos (starEach es X.env)).any (·.1) = false := by rfl)
    (ht : eval (.Call (.Attribute o m apos) (e :: es) [] pos) X.env = (do
      let ov ← eval o X.env
      standAt apos.atName
      let (f, first) ← holding [ov] (getMethod ov m pl)
      callWith pos f first (backTo pos (starEach (e :: es) X.env)) (backToKw pos (keywordEach [] X.env))) := by rfl) :
    PE X (.Call (.Attribute o m apos) (e :: es) [] pos) (tMethS C m sp (WE W) ta t) := by
  obtain ⟨f, fd, hm, _, hb, F⟩ := M.fn
  refine ⟨fun pins s σ H Q I h => ?_⟩
  refine PySem.W.methodCall_KW (pl := pl) (thn (he.run pins s σ H _ I h) fun u s1 ⟨x, H1, I1, rx, a, dx, fs, ex, ea, l, q⟩ => ?_) ht
  subst ex
  obtain rfl : u = Value.ref a := rx
  refine getmeth_ok I1 ea M.c hm l ?_
  refine PySem.W.callWith_K (first := [.ref a]) (h₀ := X.base) I.ok.mod.kin hm.kp (thn (ha.run pos pins s1 σ H1 _ I1 q) fun us s2 ⟨vs, H2, I2, r, q2⟩ => ⟨I2.kIn, ?_⟩) hst hpl
  exact run_fnS (us := .ref a :: us) (vs := .ref a :: vs) (E := WE W) F hr hb (passAt tk σ) I2 (.cons rfl r) q2
theorem q_meth0 {pl : Sem Bool} (M : MtC X.prog X.w X.K X.mg X.base k C m ps sp) (tk : Takes X W) (hr : Room k X.A) (he : PE X o ta)
    (ht : eval (.Call (.Attribute o m apos) [] [] pos) X.env = (do
      let ov ← eval o X.env
      standAt apos.atName
      let (f, first) ← holding [ov] (getMethod ov m pl)
      callWith pos f first (backTo pos (starEach [] X.env)) (backToKw pos (keywordEach [] X.env))) := by rfl) :
    PE X (.Call (.Attribute o m apos) [] [] pos) (tMethS C m sp (WE W) ta tNil) := by
  obtain ⟨f, fd, hm, _, hb, F⟩ := M.fn
  refine ⟨fun pins s σ H Q I h => ?_⟩
  refine PySem.W.methodCall_KW (pl := pl) (thn (he.run pins s σ H _ I h) fun u s1 ⟨x, H1, I1, rx, a, dx, fs, ex, ea, l, q⟩ => ?_) ht
  subst ex
  obtain rfl : u = Value.ref a := rx
  refine getmeth_ok I1 ea M.c hm l ?_
  exact PySem.W.callWith_K0 (first := [.ref a]) I1.kIn hm.kp (run_fnS (us := [.ref a]) (vs := [.ref a]) (E := WE W) F hr hb (passAt tk σ) I1 (.cons rfl .nil) q)
theorem g_meth {C : Addr} {m : Str} {sp : Sp} {E : L2.St → XK} {ta : TE} {t : TA} {σ : L2.St} {H : Hp} {Q : VK} (h : ta σ H fun x H1 => ∃ a dx fs, x = .ref a ∧ H1 a = some (.ins C dx fs) ∧ fs.lookup m = none ∧ t σ H1 fun vs H2 => sp (x :: vs) H2 Q (E σ)) : tMethS C m sp E ta t σ H Q := h
end
end NL
namespace NL
open PySem L2
/-! ### facts of the written part, asked once at the head -/
def excB (K : PySem.W.Frag) (D : Addr) : Bool := decide (PySem.W.findIn K (.ref D) "__getattribute__" = some (some (.builtin "BaseException.__getattribute__"))) && (decide (PySem.W.findIn K (.ref D) "__getattr__" = some none) && (decide (PySem.W.subIn K (.ref D) (.type "BaseException") = some true) && (PySem.W.hasDictIn K D &&
  (decide (PySem.W.findIn K (.ref D) "__class__" = some (some (.builtin "object.__class__"))) && (decide (PySem.W.specialIn K (.builtin "object.__class__") "__get__" = some (some (.builtin "getset_descriptor.__get__"))) && (decide (PySem.W.takesIn K (.builtin "object.__class__") = some true) && decide (PySem.W.mroIn K D (.type "object") = some true)))))))
/-- a class by its name: a module's one, or a built-in type -/
inductive Cn where
  | own (x : Str) | ty (n : String)
def Cn.v (K : PySem.W.Frag) : Cn → Value
  | .own x => .ref (He.ga K x)
  | .ty n => .type n
inductive Fx where
  | fa (f : He.Fa)
  /-- an own exception class with a dict -/
  | oex (x : Str)
  | fnI (x : Str)
  | excC (x : Str)
  | xf (x : Str)
  /-- isinstance of an x in y -/
  | kit (x : Str) (y : Cn) (b : Bool)
  | tup (x : Str) (vs : List He.Dv)
  | fnF (x m : Str)
def fnB (K : PySem.W.Frag) (x : Str) : Bool := He.eqO (PySem.W.findIn K (.ref (He.ga K x)) "__init__") (some (some (.ref (He.ma K (He.ga K x) "__init__")))) && decide (PySem.W.typeIn K (.ref (He.ma K (He.ga K x) "__init__")) = some (.type "function"))
def Fx.ok (K : PySem.W.Frag) : Fx → Bool
  | .fa f => f.ok K
  | .oex x => oexgB K (He.ga K x)
  | .fnI x => fnB K x
  | .excC x => excB K (He.ga K x)
  | .xf x => xfB K (He.ga K x)
  | .kit x y b => decide (PySem.W.kitOne K (.ref (He.ga K x)) (y.v K) = some b)
  | .tup x vs => He.tupB K x vs
  | .fnF x m => PySem.W.fnIn K (He.ma K (He.ga K x) m)
def fxB (l : List Fx) (K : PySem.W.Frag) : Bool := l.all fun f => f.ok K
theorem fxB_at {l : List Fx} {K : PySem.W.Frag} (h : fxB l K = true) (i : Nat) {f : Fx} (e : l[i]? = some f := by rfl) : f.ok K = true :=
  List.all_eq_true.mp h f (List.mem_of_getElem? e)
section
variable {K : PySem.W.Frag} {h : Heap} {mg : Str → Option Value} {l : List Fx}
theorem fx_glo (X : K.In h) (G : h.Ns mainGlobals mg) (c : fxB l K = true) (i : Nat) {x : Str} (e : l[i]? = some (.fa (.glo x)) := by rfl) : mg x = some (.ref (He.ga K x)) := He.glo_ok X G (fxB_at c i e)
theorem fx_free (X : K.In h) (G : h.Ns mainGlobals mg) (c : fxB l K = true) (i : Nat) {x : Str} (e : l[i]? = some (.fa (.free x)) := by rfl) : mg x = none := He.free_ok X G (fxB_at c i e)
theorem fx_int (X : K.In h) (G : h.Ns mainGlobals mg) (c : fxB l K = true) (i : Nat) {x : Str} {n : Int} (e : l[i]? = some (.fa (.int x n)) := by rfl) : GV mg x (.int n) := by
  obtain ⟨t, q⟩ := He.int_ok X G (fxB_at c i e)
  exact ⟨_, q, t, rfl⟩
theorem fx_cls (c : fxB l K = true) (i : Nat) {x : Str} (e : l[i]? = some (.fa (.cls x)) := by rfl) : Cls K (He.ga K x) := He.cls_ok (fxB_at c i e)
theorem fx_noat (c : fxB l K = true) (i : Nat) {x f : Str} (e : l[i]? = some (.fa (.noat x f)) := by rfl) : NoAttr K (He.ga K x) f := He.noat_ok (fxB_at c i e)
theorem fx_meth (c : fxB l K = true) (i : Nat) {x m : Str} (e : l[i]? = some (.fa (.meth x m)) := by rfl) : Meth K (He.ga K x) m (He.ma K (He.ga K x) m) := He.meth_ok (fxB_at c i e)
theorem fx_fnF (c : fxB l K = true) (i : Nat) {x m : Str} (e : l[i]? = some (.fnF x m) := by rfl) : PySem.W.fnIn K (He.ma K (He.ga K x) m) = true := fxB_at c i e
theorem fx_mkr (c : fxB l K = true) (i : Nat) {x : Str} (e : l[i]? = some (.fa (.mkr x)) := by rfl) : Mk K (He.ga K x) (He.ma K (He.ga K x) "__init__") := He.mkr_ok (fxB_at c i e)
theorem fx_oex (c : fxB l K = true) (i : Nat) {x : Str} (e : l[i]? = some (.oex x) := by rfl) : OexG K (He.ga K x) := oexgB_ok (fxB_at c i e)
theorem fx_tup (c : fxB l K = true) (i : Nat) {x : Str} {vs : List He.Dv} (e : l[i]? = some (.tup x vs) := by rfl) (H : Hp) : SqT K H (He.ga K x) (vs.map (He.Dv.v K)) := He.tupB_ok (fxB_at c i e) H
theorem fx_fnI (c : fxB l K = true) (i : Nat) {x : Str} (e : l[i]? = some (.fnI x) := by rfl) : PySem.W.findIn K (.ref (He.ga K x)) "__init__" = some (some (.ref (He.ma K (He.ga K x) "__init__"))) ∧ PySem.W.typeIn K (.ref (He.ma K (He.ga K x) "__init__")) = some (.type "function") := by
  have q : fnB K x = true := fxB_at c i e
  unfold fnB at q
  simp only [Bool.and_eq_true, decide_eq_true_eq] at q
  exact ⟨He.eqO_ok q.1, q.2⟩
end
theorem hCX {P : Program} (w : World) (H : Hp) (s : Shared) (e : Value) (s' : Shared) (h : L2.CX P w [] H s (fun _ _ _ => False) e s') : False := by
  obtain ⟨_, _, _, _, _, _, _, _, _, _, _, _, z⟩ := h
  exact z
end NL
namespace NL
open PySem L2
/-! ### match over texts: written texts, | of them, _ ; a guard -/
section
variable {X : Cx} {K : PySem.W.Frag}
/-- the pattern p fits the text a iff a is among ks -/
def PPat (X : Cx) (p : Pattern) (ks : List Str) : Prop := ∀ (pins : List (Addr × Obj)) (s : Shared) (σ : L2.St) (H : Hp) (a : Str) (t : Nat), Inv X pins σ H s →
  wpAny (model X.prog X.w) X.A (matchPattern p X.env (.str a t)) (fun r s' => Inv X pins σ H s' ∧ r = if a ∈ ks then some [] else none) X.xe s
theorem pp_val {k : Str} {j : Nat} {p pos : Pos} : PPat X (.MatchValue (.Constant (.str k) j p) pos) [k] := by
  intro pins s σ H a t I
  refine wpAny_matchPattern_Value ?_
  refine thn ((pe_str (X := X) (x := k) (j := j) (pos := p)).run pins s σ H (fun x H' => x = .str k ∧ H' = H) I ⟨rfl, rfl⟩) fun u s1 ⟨x, H1, I1, rx, ex, eH⟩ => ?_
  subst ex eH
  refine thn (op_eq pins s1 σ H1 (.str a) (.str k) (.str a t) u (fun z H' => z = .bl (decide (a = k)) ∧ H' = H1) I1 ⟨t, rfl⟩ rx ⟨rfl, by rw [dec_s]; exact ⟨rfl, rfl⟩⟩) fun c s2 ⟨z, H2, I2, rz, ez, eH2⟩ => ?_
  subst ez eH2
  obtain rfl : c = Value.bool (decide (a = k)) := rz
  refine wpAny_truthy_bool ?_
  by_cases h : a = k
  · rw [decide_eq_true h, if_pos rfl]
    exact ⟨I2, by rw [if_pos (by simpa using h)]⟩
  · rw [decide_eq_false h, if_neg Bool.false_ne_true]
    exact ⟨I2, by rw [if_neg (by simpa using h)]⟩
/-- the patterns of an |, from the left -/
def PPats (X : Cx) (ps : List Pattern) (ks : List Str) : Prop := ∀ (pins : List (Addr × Obj)) (s : Shared) (σ : L2.St) (H : Hp) (a : Str) (t : Nat), Inv X pins σ H s →
  wpAny (model X.prog X.w) X.A (matchFirst ps X.env (.str a t)) (fun r s' => Inv X pins σ H s' ∧ r = if a ∈ ks then some [] else none) X.xe s
theorem ppl_nil : PPats X [] [] := fun pins s σ H a t I => wpAny_matchFirst_nil ⟨I, by rw [if_neg (List.not_mem_nil)]⟩
theorem ppl_cons {p : Pattern} {ps : List Pattern} {ks ls : List Str} (h1 : PPat X p ks) (h2 : PPats X ps ls) : PPats X (p :: ps) (ks ++ ls) := by
  intro pins s σ H a t I
  refine wpAny_matchFirst_cons (thn (h1 pins s σ H a t I) fun r s1 ⟨I1, e⟩ => ?_)
  by_cases h : a ∈ ks
  · rw [if_pos h] at e
    subst e
    exact ⟨I1, by rw [if_pos (List.mem_append_left _ h)]⟩
  · rw [if_neg h] at e
    subst e
    refine thn (h2 pins s1 σ H a t I1) fun r s2 ⟨I2, e2⟩ => ⟨I2, ?_⟩
    rw [e2]
    by_cases g : a ∈ ls
    · rw [if_pos g, if_pos (List.mem_append_right _ g)]
    · rw [if_neg g, if_neg (fun z => (List.mem_append.mp z).elim h g)]
theorem pp_or {ps : List Pattern} {ks : List Str} {pos : Pos} (h : PPats X ps ks) (hn : namesOfAll (ps.take 1) = [] := by rfl) : PPat X (.MatchOr ps pos) ks := by
  intro pins s σ H a t I
  refine wpAny_matchPattern_Or (thn (h pins s σ H a t I) fun r s1 ⟨I1, e⟩ => ?_)
  subst e
  by_cases g : a ∈ ks
  · rw [if_pos g]
    refine ⟨I1, ?_⟩
    rw [hn]
    rfl
  · rw [if_neg g]
    exact ⟨I1, rfl⟩
/-- the cases of a match, by the text -/
def PMc (X : Cx) (cs : List MatchCase) (t : Str → TS) : Prop := ∀ (first : Bool) (pins : List (Addr × Obj)) (s : Shared) (σ : L2.St) (H : Hp) (D : Ends) (a : Str) (k : Nat), Inv X pins σ H s → t a D σ H →
  wpAny (model X.prog X.w) X.A (matchCases cs X.env (.str a k) first) (SP X pins D) X.xe s
def tMnil : Str → TS := fun _ D σ H => D.nx σ H
def tMcs (ks : List Str) (tb : TS) (tr : Str → TS) : Str → TS := fun a D σ H => if decide (a ∈ ks) = true then tb D σ H else tr a D σ H
def tMcg (ks : List Str) (tg : TT) (tb : TS) (tr : Str → TS) : Str → TS := fun a D σ H => if decide (a ∈ ks) = true then tg σ H (fun b H1 => if b = true then tb D σ H1 else tr a D σ H1) else tr a D σ H
def tMany (tb : TS) : Str → TS := fun _ D σ H => tb D σ H
theorem pmc_nil : PMc X [] tMnil := fun _ pins s σ H D a k I h => wpAny_matchCases_nil ⟨σ, H, I, h⟩
theorem pmc_cons {p : Pattern} {ks : List Str} {b : List Stmt} {r : List MatchCase} {tb : TS} {tr : Str → TS} (hp : PPat X p ks) (hb : PSs X b tb) (hr : PMc X r tr) : PMc X (⟨p, none, b⟩ :: r) (tMcs ks tb tr) := by
  intro first pins s σ H D a k I h
  refine wpAny_matchCases_cons (thn (hp pins s σ H a k I) fun o s1 ⟨I1, e⟩ => ?_)
  subst e
  unfold tMcs at h
  by_cases g : a ∈ ks
  · rw [if_pos g]
    rw [decide_eq_true g, if_pos rfl] at h
    exact wpAny_assignInOrder_none (hb.run pins s1 σ H D I1 h)
  · rw [if_neg g]
    rw [decide_eq_false g, if_neg Bool.false_ne_true] at h
    exact hr false pins s1 σ H D a k I1 h
theorem pmc_consG {p : Pattern} {ks : List Str} {g : Expr} {b : List Stmt} {r : List MatchCase} {tg : TT} {tb : TS} {tr : Str → TS} (hp : PPat X p ks) (hg : PT X g tg) (hb : PSs X b tb) (hr : PMc X r tr) : PMc X (⟨p, some g, b⟩ :: r) (tMcg ks tg tb tr) := by
  intro first pins s σ H D a k I h
  refine wpAny_matchCases_cons (thn (hp pins s σ H a k I) fun o s1 ⟨I1, e⟩ => ?_)
  subst e
  unfold tMcg at h
  by_cases q : a ∈ ks
  · rw [if_pos q]
    rw [decide_eq_true q, if_pos rfl] at h
    refine wpAny_assignInOrder_none (thn (hg.run pins s1 σ H _ I1 h) fun ok s2 ⟨H2, I2, q2⟩ => ?_)
    cases ok with
    | true => exact hb.run pins s2 σ H2 D I2 q2
    | false => exact hr false pins s2 σ H2 D a k I2 q2
  · rw [if_neg q]
    rw [decide_eq_false q, if_neg Bool.false_ne_true] at h
    exact hr false pins s1 σ H D a k I1 h
def tMatch (te : TE) (tc : Str → TS) : TS := fun D σ H => te σ H fun x H1 => ∃ a, x = .str a ∧ tc a D σ H1
theorem ps_match {e : Expr} {cs : List MatchCase} {te : TE} {tc : Str → TS} {pos : Pos} (he : PE X e te) (hc : PMc X cs tc) : PS X (.Match e cs pos) (tMatch te tc) := by
  refine ⟨fun pins s σ H D I h => ?_⟩
  refine wpAny_Match (thn (he.run pins s σ H _ I h) fun u s1 ⟨x, H1, I1, rx, a, ex, q⟩ => ?_)
  subst ex
  obtain ⟨t, rfl⟩ := (show ∃ t, u = Value.str a t from rx)
  exact hc true pins s1 σ H1 D a t I1 q
variable {σ : L2.St} {H : Hp} {D : Ends} {a : Str} {ks : List Str}
theorem g_match {te : TE} {tc : Str → TS} (h : te σ H fun x H1 => ∃ a, x = .str a ∧ tc a D σ H1) : tMatch te tc D σ H := h
theorem g_matched {Z : Str → Prop} (h : Z a) : ∃ b, V.str a = .str b ∧ Z b := ⟨a, rfl, h⟩
theorem g_mcs {tb : TS} {tr : Str → TS} (h : if decide (a ∈ ks) = true then tb D σ H else tr a D σ H) : tMcs ks tb tr a D σ H := h
theorem g_mcg {tg : TT} {tb : TS} {tr : Str → TS} (h : if decide (a ∈ ks) = true then tg σ H (fun b H1 => if b = true then tb D σ H1 else tr a D σ H1) else tr a D σ H) : tMcg ks tg tb tr a D σ H := h
theorem g_many {tb : TS} (h : tb D σ H) : tMany tb a D σ H := h
theorem g_mnil {nx : L2.St → Hp → Prop} {rt : VK} {bk ct : L2.St → Hp → Prop} (h : nx σ H) : tMnil a ⟨nx, rt, bk, ct⟩ σ H := h
/-! ### fields -/
theorem q_afld (K : PySem.W.Frag) {o value : Expr} {f : Str} {pos tpos : Pos} {ta tv : TE} {op : Operator} {rd : V → V → Hp → VK → Prop} (ha : PE X o ta) (hv : PE X value tv) (hop : InOp X op rd) (h : X.K = K := by rfl) :
    PS X (.AugAssign (.Attribute o f tpos) op value pos) (sFldAug K ta tv rd f) := h ▸ ps_fldaug ha hv hop
theorem g_afld {ta tv : TE} {rd : V → V → Hp → VK → Prop} {f : Str} {nx : L2.St → Hp → Prop} {rt : VK} {bk ct : L2.St → Hp → Prop} (h : ta σ H fun x H1 => ∃ a C dx fs v, x = .ref a ∧ H1 a = some (.ins C dx fs) ∧ Cls K C ∧ NoAttr K C f ∧ fs.lookup f = some v ∧
    tv σ H1 fun y H2 => rd v y H2 fun z H3 => ∃ dx' fs', H3 a = some (.ins C dx' fs') ∧ fs'.length < 1000 ∧ nx σ (upd H3 a (.ins C dx' (putF f z fs')))) : sFldAug K ta tv rd f ⟨nx, rt, bk, ct⟩ σ H := h
theorem g_rAdd {i j : Int} {Q : VK} (h : Q (.int (i + j)) H) : rAdd (.int i) (.int j) H Q := ⟨i, j, rfl, rfl, h⟩
theorem g_rSub {i j : Int} {Q : VK} (h : Q (.int (i - j)) H) : rSub (.int i) (.int j) H Q := ⟨i, j, rfl, rfl, h⟩
theorem g_af {p C dx : Addr} {fs : List (Str × V)} {Z : Addr → List (Str × V) → Prop} (z1 : H p = some (.ins C dx fs)) (z4 : fs.length < 1000) (h : Z dx fs) : ∃ dx' fs', H p = some (.ins C dx' fs') ∧ fs'.length < 1000 ∧ Z dx' fs' := ⟨dx, fs, z1, z4, h⟩
theorem g_gfa {p C dx : Addr} {fs : List (Str × V)} {f : Str} {v : V} {Z : Addr → Addr → V → Prop} (z1 : H p = some (.ins C dx fs)) (z2 : Cls K C) (z3 : NoAttr K C f) (z4 : fs.lookup f = some v) (h : Z p C v) :
    ∃ a C dx fs v, V.ref p = .ref a ∧ H a = some (.ins C dx fs) ∧ Cls K C ∧ NoAttr K C f ∧ fs.lookup f = some v ∧ Z a C v := ⟨p, C, dx, fs, v, rfl, z1, z2, z3, z4, h⟩
theorem g_mt {p C dx : Addr} {fs : List (Str × V)} {m : Str} {Z : Prop} (z1 : H p = some (.ins C dx fs)) (z2 : fs.lookup m = none) (h : Z) : ∃ a dx fs, V.ref p = .ref a ∧ H a = some (.ins C dx fs) ∧ fs.lookup m = none ∧ Z := ⟨p, dx, fs, rfl, z1, z2, h⟩
theorem g_allP {W R G : Prop} (main : (W → R) → G) (rest : W → R) : G := main rest
theorem putF_nil {f : Str} {v : V} : putF f v [] = [(f, v)] := rfl
theorem putF_eq {f : Str} {v w : V} {r : List (Str × V)} : putF f v ((f, w) :: r) = (f, v) :: r := by show (if f = f then _ else _) = _; rw [if_pos rfl]
theorem putF_ne {f g : Str} {v w : V} {r : List (Str × V)} (h : ¬ g = f) : putF f v ((g, w) :: r) = (g, w) :: putF f v r := by show (if g = f then _ else _) = _; rw [if_neg h]
theorem g_ite_refl {α : Type} [DecidableEq α] {x : α} {A B : Prop} (h : B) : if (!decide (x = x)) = true then A else B := by
  rw [show (!decide (x = x)) = false by simp]
  exact iteF h
end
theorem g_isi {K : PySem.W.Frag} {H : Hp} {Q : VK} {x c : V} {t u : Value} {b : Bool} (h1 : ClsV c u) (h2 : TyX K H x t) (h3 : PySem.W.kitOne K t u = some b) (h : Q (.bl b) H) : dIsi K [x, c] H Q := ⟨x, c, t, u, b, rfl, h1, h2, h3, h⟩
end NL
namespace NL
open PySem L2
/-! ### an own object that is called -/
/-- callWith of an instance: where the arguments are made it is an instance still -/
theorem callWith_inst {M : Model} {A : Around} {E : Value → Shared → Prop} {s : Shared} {pos : Pos} {x : Addr} {Q : Value → Shared → Prop} {args : List (Bool × Sem Value)} (hplain : args.any (·.1) = false)
    (h : wpAny M A (evalArgs (.ref x) true args []) (fun a s₁ => (∃ C ox od, ox.data = .plain ∧ PySem.W.InstAt s₁.heap x ox C od) ∧ wpAny M A (call (.ref x) a.pos a.kw) Q E s₁) E s) :
    wpAny M A (callWith pos (.ref x) [] args []) Q E s := by
  unfold callWith
  refine wpAny_bind (wpAny_holding (thn h fun a s1 hh => ?_))
  obtain ⟨⟨C, ox, od, hd, J⟩, hc⟩ := hh
  refine wpAny_bind (wpAny_standAt ?_)
  have hk := PySem.W.kco_keeper (M := M) J hd
  have hp : (args.any (·.1) || List.any (α := Option Str × Sem Value) [] (·.1.isNone)) = false := by rw [hplain]; rfl
  simp only [hp]
  refine wpAny_bind (hk.here ?_)
  have last : ∀ {t : Sem Value}, wpAny M A t Q E s1 → wpAny M A (do let r ← t; holding [r] point; pure r) Q E s1 := fun ht =>
    wpAny_bind (thn ht fun r s2 hr => wpAny_bind (wpAny_holding (wpAny_point (wpAny_pure hr))))
  exact last (wpAny_operateT hc)
section
variable {X : Cx} {k : Nat} {x : Str} {C : Addr} {e : Expr} {es : List Expr} {t : TA} {ta : TE} {p pos : Pos} {ps : List Str} {sp : Sp} {W : WX}
def tCallO (C : Addr) (sp : Sp) (E : L2.St → XK) (ta : TE) (t : TA) : TE := fun σ H Q => ta σ H fun x H1 => ∃ a dx fs, x = .ref a ∧ H1 a = some (.ins C dx fs) ∧ t σ H1 fun vs H2 => (∃ dx' fs', H2 a = some (.ins C dx' fs')) ∧ sp (x :: vs) H2 Q (E σ)
theorem q_callO (M : MtC X.prog X.w X.K X.mg X.base k C "__call__" ps sp) (tk : Takes X W) (hr : Room (k + 1) X.A) (hf : PE X (.Name x p) ta) (ha : PA X (e :: es) t)
    (he : starEach (e :: es) X.env = (false, eval e X.env) :: starEach es X.env := by rfl) (hpl : (backTo pos (starEach es X.env)).any (·.1) = false := by rfl) :
    PE X (.Call (.Name x p) (e :: es) [] pos) (tCallO C sp (WE W) ta t) := by
  obtain ⟨f, fd, hm, hfn, hb, F⟩ := M.fn
  refine ⟨fun pins s σ H Q I h => ?_⟩
  refine wpAny_Call_Name_kw (thn (hf.run pins s σ H _ I h) fun u s1 ⟨x, H1, I1, rx, a, dx, fs, ex, ea, q⟩ => ?_)
  subst ex
  obtain rfl : u = Value.ref a := rx
  show wpAny _ _ (callWith pos (.ref a) [] (backTo pos (starEach (e :: es) X.env)) []) _ _ _
  refine callWith_inst (by rw [he]; show (false || (backTo pos (starEach es X.env)).any (·.1)) = false; rw [hpl]; rfl) ?_
  have run := thn (ha.run pos pins s1 σ H1 _ I1 q) (Q' := fun us s2 => (∃ C ox od, ox.data = .plain ∧ PySem.W.InstAt s2.heap a ox C od) ∧ wpAny (model X.prog X.w) X.A (call (.ref a) us) (EP X pins σ Q) X.xe s2) fun us s2 ⟨vs, H2, I2, r, ⟨dx', fs', ea2⟩, q2⟩ => by
    obtain ⟨mA, O, _⟩ := ins_get I2.hok ea2
    obtain ⟨od, J, _⟩ := O.look
    refine ⟨⟨C, _, _, rfl, J⟩, ?_⟩
    have rr : Vals (V.ref a :: vs) (Value.ref a :: us) := Paired.cons rfl r
    have hl : (Value.ref a :: us).length = ps.length := by rw [← rr.length]; exact F.len _ _ _ _ q2
    have b := hb s2 (Value.ref a :: us) I2.kIn (by rw [List.append_nil]; exact hl)
    rw [List.append_nil] at b
    refine wpAny_call (PySem.W.kco_code (a := ⟨us, []⟩) I2.kIn J rfl hm.at_ hm.fn hfn ?_)
    refine codeAny_mono (F.run X.A X.stack s2 H2 ⟨Value.ref a :: us, []⟩ (Value.ref a :: us) (V.ref a :: vs) Q (WE W σ) (hr.mono (Nat.le_succ _)) I2.env0 b rr q2) fun r s' hq => ?_
    cases r with
    | error e => exact passAt tk σ pins H2 s2 e s' I2 hq
    | ok fl =>
      cases fl with
      | ret u => exact I2.after hq
      | next => exact False.elim hq
      | brk => exact False.elim hq
      | cont => exact False.elim hq
  rw [he] at run ⊢
  exact Calls.evalArgs_plain run
theorem g_callO {σ : L2.St} {H : Hp} {Q : VK} {E : L2.St → XK} (h : ta σ H fun x H1 => ∃ a dx fs, x = .ref a ∧ H1 a = some (.ins C dx fs) ∧ t σ H1 fun vs H2 => (∃ dx' fs', H2 a = some (.ins C dx' fs')) ∧ sp (x :: vs) H2 Q (E σ)) : tCallO C sp E ta t σ H Q := h
theorem g_co {H : Hp} {p dx : Addr} {fs : List (Str × V)} {Z : Addr → Prop} (z1 : H p = some (.ins C dx fs)) (h : Z p) : ∃ a dx fs, V.ref p = .ref a ∧ H a = some (.ins C dx fs) ∧ Z a := ⟨p, dx, fs, rfl, z1, h⟩
theorem g_ci {H : Hp} {p dx : Addr} {fs : List (Str × V)} {Z : Prop} (z1 : H p = some (.ins C dx fs)) (h : Z) : (∃ dx' fs', H p = some (.ins C dx' fs')) ∧ Z := ⟨⟨dx, fs, z1⟩, h⟩
end
theorem units1 {A : Around} (h : A.units + 64 < cLine) : A.units + 1 < cLine := by omega
/-! ### dicts -/
section
variable {X : Cx} {K : PySem.W.Frag} {σ : L2.St} {H : Hp} {Q : VK} {td ty tv : TE} {p : Addr} {kvs : List (Key × V)} {z : Str} {i : Int} {v : V}
theorem g_dget (h : td σ H fun x H1 => ty σ H1 fun y H2 => ∃ a v, x = .ref a ∧ DGet H2 a y (some v) ∧ Q v H2) : tDGet td ty σ H Q := h
theorem g_dgs {Z : V → Prop} (z1 : H p = some (.dK kvs)) (z2 : valV kvs (.inr z) = some v) (h : Z v) : ∃ a v, V.ref p = .ref a ∧ DGet H a (.str z) (some v) ∧ Z v :=
  ⟨p, v, rfl, .inl ⟨kvs, .inr z, .inl z1, rfl, z2.symm⟩, h⟩
theorem g_dput {nx : L2.St → Hp → Prop} {rt : VK} {bk ct : L2.St → Hp → Prop} (h : tv σ H fun v H1 => td σ H1 fun x H2 => ty σ H2 fun y H3 => ∃ a H4, x = .ref a ∧ DPut H3 a y v H4 ∧ nx σ H4) : sDPut td ty tv ⟨nx, rt, bk, ct⟩ σ H := h
theorem g_dps {Z : Hp → Prop} (z1 : H p = some (.dK kvs)) (z2 : kvs.length < sizeLine) (h : Z (upd H p (.dK (putK kvs (.inr z) v)))) : ∃ a H4, V.ref p = .ref a ∧ DPut H a (.str z) v H4 ∧ Z H4 :=
  ⟨p, _, rfl, .inl ⟨kvs, .inr z, z1, rfl, z2, rfl⟩, h⟩
theorem cl_all0 (hc : X.calm = true) : CallR X (.builtin "all") (rAll X.K) := cr_all hc
theorem cl_all (K : PySem.W.Frag) (hc : X.calm = true := by rfl) (h : X.K = K := by rfl) : CallR X (.builtin "all") (rAll K) := h ▸ cl_all0 hc
end
end NL
namespace NL
open PySem L2
/-! ### edges: from a heap to the next; what lies in U may change, nothing goes -/
def Ed (U : List Addr) (H H' : Hp) : Prop := (∀ a o, a ∉ U → H a = some o → H' a = some o) ∧ ∀ a, H a ≠ none → H' a ≠ none
section
variable {U U' W : List Addr} {H H' H0 H1 H2 : Hp} {a b p : Addr} {o : HO}
theorem no0 {P : Addr → Prop} : ∀ a ∈ ([] : List Addr), P a := fun _ z => absurd z List.not_mem_nil
theorem Ed.refl : Ed U H H := ⟨fun _ _ _ e => e, fun _ h => h⟩
theorem Ed.free (e : Ed U H H') (h : H' a = none) : H a = none := by
  by_cases z : H a = none
  · exact z
  · exact absurd h (e.2 a z)
theorem Ed.tr (h1 : Ed U H0 H1) (h2 : Ed U' H1 H2) (hv : ∀ a ∈ U', a ∈ U ∨ H0 a = none) : Ed U H0 H2 :=
  ⟨fun a o n e => h2.1 a o (fun z => (hv a z).elim n (fun q => by rw [q] at e; cases e)) (h1.1 a o n e), fun a h => h2.2 a (h1.2 a h)⟩
theorem Ed.new (hp : H p = none) : Ed [] H (upd H p o) := ⟨fun a u _ e => by rw [upd_ne (ne_of_none e hp)]; exact e, fun a h => by
  rw [upd_ne (fun z : a = p => h (by rw [z]; exact hp))]; exact h⟩
theorem Ed.put : Ed [p] H (upd H p o) := ⟨fun a u n e => by rw [upd_ne (fun z => n (by rw [z]; exact List.mem_singleton.mpr rfl))]; exact e, fun a h => by
  by_cases z : a = p
  · rw [z, upd_same]; exact fun z => nomatch z
  · rw [upd_ne z]; exact h⟩
theorem Ed.same (s : Same H H') : Ed [] H H' := ⟨fun a o _ e => s a o e, fun a h => by
  cases e : H a with
  | none => exact absurd e h
  | some o => rw [s a o e]; exact fun z => nomatch z⟩
theorem Ed.sx (s : Sx U H H') (h : ∀ a ∈ U, H' a ≠ none) : Ed U H H' := ⟨fun a o n e => s a o n e, fun a q => by
  by_cases z : a ∈ U
  · exact h a z
  · cases e : H a with
    | none => exact absurd e q
    | some o => rw [s a o z e]; exact fun z => nomatch z⟩
theorem Ed.same' (e : Ed [] H H') : Same H H' := fun a o q => e.1 a o (List.not_mem_nil) q
theorem Ed.get (e : Ed U H H') (n : a ∉ U) (h : H a = some o) : H' a = some o := e.1 a o n h
/-- all of W lie in H -/
def Wl (W : List Addr) (H : Hp) : Prop := ∀ a ∈ W, H a ≠ none
theorem Wl.nil : Wl [] H := no0
theorem Wl.cons (h : H a = some o) (r : Wl W H) : Wl (a :: W) H := fun c hc => by
  rcases List.mem_cons.mp hc with rfl | hc
  · rw [h]; exact fun z => nomatch z
  · exact r c hc
theorem Wl.ed (w : Wl W H) (e : Ed U H H') : Wl W H' := fun a h => e.2 a (w a h)
theorem Wl.not (w : Wl W H) (h : H a = none) : a ∉ W := fun z => w a z h
end
/-! ### data of one's own: every part lies outside of W -/
mutual
/-- no dict in it -/
def noD : PyData → Bool
  | .list ds => noDs ds
  | .tuple ds => noDs ds
  | .dict _ => false
  | .none => true
  | .bool _ => true
  | .int _ => true
  | .str _ => true
def noDs : List PyData → Bool
  | [] => true
  | d :: r => noD d && noDs r
end
/-- data that can be compared -/
def Sh (d : PyData) : Prop := SeqAt.shaped d = true ∧ noD d = true
theorem Sh.int (i : Int) : Sh (.int i) := ⟨by simp [SeqAt.shaped, PyData.canLay0, PyData.depth], by simp [noD]⟩
theorem Sh.bool (i : Bool) : Sh (.bool i) := ⟨by simp [SeqAt.shaped, PyData.canLay0, PyData.depth], by simp [noD]⟩
theorem Sh.none : Sh .none := ⟨by simp [SeqAt.shaped, PyData.canLay0, PyData.depth], by simp [noD]⟩
theorem Sh.str {s : Str} (h : PyData.strOk s = true) : Sh (.str s) := ⟨by simp [SeqAt.shaped, PyData.canLay0, PyData.depth, h], by simp [noD]⟩
/-- data that can lie in a list or tuple of what is compared: n deep at most -/
def Sd (n : Nat) (d : PyData) : Prop := d.canLay0 = true ∧ d.depth ≤ n ∧ noD d = true
theorem Sd.mono {n m : Nat} {d : PyData} (h : Sd n d) (l : n ≤ m) : Sd m d := ⟨h.1, Nat.le_trans h.2.1 l, h.2.2⟩
theorem Sd.all {n : Nat} : ∀ {ds : List PyData}, (∀ d ∈ ds, Sd n d) → PyData.canLayAll0 ds = true ∧ PyData.depthAll ds ≤ n ∧ noDs ds = true
  | [], _ => ⟨rfl, by simp [PyData.depthAll], by simp [noDs]⟩
  | d :: r, h => by
    obtain ⟨h1, h2, h3⟩ := h d (List.mem_cons_self ..)
    obtain ⟨k1, k2, k3⟩ := Sd.all fun e he => h e (List.mem_cons_of_mem _ he)
    exact ⟨by simp [PyData.canLayAll0, h1, k1], by simp only [PyData.depthAll]; omega, by simp [noDs, h3, k3]⟩
theorem Sd.list {n : Nat} {ds : List PyData} (h : ∀ d ∈ ds, Sd n d) : Sd (n + 1) (.list ds) := by
  obtain ⟨k1, k2, k3⟩ := Sd.all h
  exact ⟨by simp only [PyData.canLay0, k1], by simp only [PyData.depth]; omega, by simp only [noD, k3]⟩
theorem Sd.tuple {n : Nat} {ds : List PyData} (h : ∀ d ∈ ds, Sd n d) : Sd (n + 1) (.tuple ds) := by
  obtain ⟨k1, k2, k3⟩ := Sd.all h
  exact ⟨by simp only [PyData.canLay0, k1], by simp only [PyData.depth]; omega, by simp only [noD, k3]⟩
theorem Sd.sh {n : Nat} {d : PyData} (h : Sd n d) (l : n ≤ 60) : Sh d := ⟨by
  simp only [SeqAt.shaped, h.1, Bool.true_and]
  have := h.2.1
  exact decide_eq_true (by omega), h.2.2⟩
theorem Sd.int (i : Int) : Sd 0 (.int i) := ⟨by simp [PyData.canLay0], by simp [PyData.depth], by simp [noD]⟩
theorem Sd.bool (i : Bool) : Sd 0 (.bool i) := ⟨by simp [PyData.canLay0], by simp [PyData.depth], by simp [noD]⟩
theorem Sd.none : Sd 0 .none := ⟨by simp [PyData.canLay0], by simp [PyData.depth], by simp [noD]⟩
theorem Sd.str {s : Str} (h : PyData.strOk s = true) : Sd 0 (.str s) := ⟨by simp [PyData.canLay0, h], by simp [PyData.depth], by simp [noD]⟩
theorem Sd.map {α : Type} {n : Nat} {f : α → PyData} {xs : List α} (h : ∀ x ∈ xs, Sd n (f x)) : ∀ d ∈ xs.map f, Sd n d := fun d hd => by
  obtain ⟨x, hx, rfl⟩ := List.mem_map.mp hd
  exact h x hx
theorem Sd.nil {n : Nat} : ∀ d ∈ ([] : List PyData), Sd n d := fun d hd => absurd hd List.not_mem_nil
theorem Sd.cons {n : Nat} {d : PyData} {r : List PyData} (h : Sd n d) (k : ∀ d ∈ r, Sd n d) : ∀ e ∈ d :: r, Sd n e := fun e he => by
  rcases List.mem_cons.mp he with rfl | he
  · exact h
  · exact k e he
/-- an object of which the data tell the place alone -/
abbrev ob (a : Addr) : PyData := .dict [(.int (a : Nat), .none)]
mutual
inductive Df (W : List Addr) (H : Hp) : L2.V → PyData → Prop
  | non : Df W H .non .none
  | bl (b : Bool) : Df W H (.bl b) (.bool b)
  | int (i : Int) : Df W H (.int i) (.int i)
  | str (s : Str) : Df W H (.str s) (.str s)
  | obj {a : Addr} : a ∉ W → H a ≠ none → Df W H (.ref a) (ob a)
  | lst {a : Addr} {xs : List V} {ds : List PyData} : a ∉ W → H a = some (.lst xs) → DfAll W H xs ds → Df W H (.ref a) (.list ds)
  | tup {a : Addr} {xs : List V} {ds : List PyData} : a ∉ W → H a = some (.tup xs) → DfAll W H xs ds → Df W H (.ref a) (.tuple ds)
inductive DfAll (W : List Addr) (H : Hp) : List L2.V → List PyData → Prop
  | nil : DfAll W H [] []
  | cons {v : V} {d : PyData} {vs : List V} {ds : List PyData} : Df W H v d → DfAll W H vs ds → DfAll W H (v :: vs) (d :: ds)
end
section
variable {U W W' : List Addr} {H H' : Hp} {v : V} {d : PyData} {vs : List L2.V} {ds : List PyData} {K : PySem.W.Frag} {p a : Addr}
mutual
theorem Df.ed (e : Ed U H H') (hv : ∀ a ∈ U, a ∈ W) : ∀ {v : L2.V} {d : PyData}, Df W H v d → Df W H' v d
  | _, _, .non => .non
  | _, _, .bl b => .bl b
  | _, _, .int b => .int b
  | _, _, .str b => .str b
  | _, _, .obj n h => .obj n (e.2 _ h)
  | _, _, .lst n h r => .lst n (e.1 _ _ (fun z => n (hv _ z)) h) (DfAll.ed e hv r)
  | _, _, .tup n h r => .tup n (e.1 _ _ (fun z => n (hv _ z)) h) (DfAll.ed e hv r)
theorem DfAll.ed (e : Ed U H H') (hv : ∀ a ∈ U, a ∈ W) : ∀ {vs : List L2.V} {ds : List PyData}, DfAll W H vs ds → DfAll W H' vs ds
  | _, _, .nil => .nil
  | _, _, .cons h r => .cons (Df.ed e hv h) (DfAll.ed e hv r)
end
mutual
theorem Df.weak (hv : ∀ a ∈ W', a ∈ W) : ∀ {v : L2.V} {d : PyData}, Df W H v d → Df W' H v d
  | _, _, .non => .non
  | _, _, .bl b => .bl b
  | _, _, .int b => .int b
  | _, _, .str b => .str b
  | _, _, .obj n h => .obj (fun z => n (hv _ z)) h
  | _, _, .lst n h r => .lst (fun z => n (hv _ z)) h (DfAll.weak hv r)
  | _, _, .tup n h r => .tup (fun z => n (hv _ z)) h (DfAll.weak hv r)
theorem DfAll.weak (hv : ∀ a ∈ W', a ∈ W) : ∀ {vs : List L2.V} {ds : List PyData}, DfAll W H vs ds → DfAll W' H vs ds
  | _, _, .nil => .nil
  | _, _, .cons h r => .cons (Df.weak hv h) (DfAll.weak hv r)
end
mutual
theorem Df.more (hp : H p = none) : ∀ {v : L2.V} {d : PyData}, Df W H v d → Df (p :: W) H v d
  | _, _, .non => .non
  | _, _, .bl b => .bl b
  | _, _, .int b => .int b
  | _, _, .str b => .str b
  | _, _, .obj n h => .obj (fun z => (List.mem_cons.mp z).elim (fun q => h (by rw [q]; exact hp)) n) h
  | _, _, .lst n h r => .lst (fun z => (List.mem_cons.mp z).elim (ne_of_none h hp) n) h (DfAll.more hp r)
  | _, _, .tup n h r => .tup (fun z => (List.mem_cons.mp z).elim (ne_of_none h hp) n) h (DfAll.more hp r)
theorem DfAll.more (hp : H p = none) : ∀ {vs : List L2.V} {ds : List PyData}, DfAll W H vs ds → DfAll (p :: W) H vs ds
  | _, _, .nil => .nil
  | _, _, .cons h r => .cons (Df.more hp h) (DfAll.more hp r)
end
mutual
theorem Df.dp : ∀ {v : L2.V} {d : PyData}, Df W H v d → noD d = true → Dp K H v d
  | _, _, .non, _ => .non
  | _, _, .bl b, _ => .bl b
  | _, _, .int b, _ => .int b
  | _, _, .str b, _ => .str b
  | _, _, .obj _ _, h => by simp [noD] at h
  | _, _, .lst _ h r, q => .lst (SqL.of h) (DfAll.dp r (by simpa [noD] using q))
  | _, _, .tup _ h r, q => .tup (SqT.of h) (DfAll.dp r (by simpa [noD] using q))
theorem DfAll.dp : ∀ {vs : List L2.V} {ds : List PyData}, DfAll W H vs ds → noDs ds = true → DpAll K H vs ds
  | _, _, .nil, _ => .nil
  | _, _, .cons h r, q => .cons (Df.dp h (by simp [noDs] at q; exact q.1)) (DfAll.dp r (by simp [noDs] at q; exact q.2))
end
theorem DfAll.length : ∀ {vs : List L2.V} {ds : List PyData}, DfAll W H vs ds → vs.length = ds.length
  | _, _, .nil => rfl
  | _, _, .cons _ r => by rw [List.length_cons, List.length_cons, DfAll.length r]
theorem DfAll.at : ∀ {vs : List L2.V} {ds : List PyData} {i : Nat} {d : PyData}, DfAll W H vs ds → ds[i]? = some d → ∃ v, vs[i]? = some v ∧ Df W H v d
  | _, _, _, _, .nil, e => by simp at e
  | _, _, 0, _, .cons h _, e => by simp at e; subst e; exact ⟨_, rfl, h⟩
  | _, _, i + 1, _, .cons _ r, e => by
    obtain ⟨v, h1, h2⟩ := DfAll.at r (i := i) (by simpa using e)
    exact ⟨v, by simpa using h1, h2⟩
theorem DfAll.at' : ∀ {vs : List L2.V} {ds : List PyData} {i : Nat} {v : L2.V}, DfAll W H vs ds → vs[i]? = some v → ∃ d, ds[i]? = some d ∧ Df W H v d
  | _, _, _, _, .nil, e => by simp at e
  | _, _, 0, _, .cons h _, e => by simp at e; subst e; exact ⟨_, rfl, h⟩
  | _, _, i + 1, _, .cons _ r, e => by
    obtain ⟨v, h1, h2⟩ := DfAll.at' r (i := i) (by simpa using e)
    exact ⟨v, by simpa using h1, h2⟩
theorem DfAll.app : ∀ {vs ws : List L2.V} {ds es : List PyData}, DfAll W H vs ds → DfAll W H ws es → DfAll W H (vs ++ ws) (ds ++ es)
  | _, _, _, _, .nil, h => h
  | _, _, _, _, .cons h r, q => .cons h (DfAll.app r q)
theorem DfAll.snoc {vs : List L2.V} {ds : List PyData} (h : DfAll W H vs ds) (q : Df W H v d) : DfAll W H (vs ++ [v]) (ds ++ [d]) := h.app (.cons q .nil)
theorem DfAll.drop : ∀ {vs : List L2.V} {ds : List PyData} (n : Nat), DfAll W H vs ds → DfAll W H (vs.drop n) (ds.drop n)
  | _, _, 0, h => h
  | _, _, _ + 1, .nil => .nil
  | _, _, n + 1, .cons _ r => DfAll.drop n r
theorem DfAll.take : ∀ {vs : List L2.V} {ds : List PyData} (n : Nat), DfAll W H vs ds → DfAll W H (vs.take n) (ds.take n)
  | _, _, 0, _ => .nil
  | _, _, _ + 1, .nil => .nil
  | _, _, n + 1, .cons h r => .cons h (DfAll.take n r)
theorem DfAll.strs (xs : List Str) : DfAll W H (xs.map L2.V.str) (xs.map PyData.str) := by
  induction xs with
  | nil => exact .nil
  | cons x r ih => exact .cons (.str x) ih
theorem DfAll.ints (xs : List Int) : DfAll W H (xs.map L2.V.int) (xs.map PyData.int) := by
  induction xs with
  | nil => exact .nil
  | cons x r ih => exact .cons (.int x) ih
theorem DfAll.strs' : ∀ {xs : List Str} {vs : List L2.V}, DfAll W H vs (xs.map PyData.str) → vs = xs.map L2.V.str
  | [], _, .nil => rfl
  | x :: r, _, .cons (.str _) h => by rw [DfAll.strs' h]; rfl
theorem DfAll.bools' : ∀ {xs : List Bool} {vs : List L2.V}, DfAll W H vs (xs.map PyData.bool) → vs = xs.map L2.V.bl
  | [], _, .nil => rfl
  | x :: r, _, .cons (.bl _) h => by rw [DfAll.bools' h]; rfl
theorem Df.strL {xs : List Str} (h : Df W H (.ref p) (.list (xs.map PyData.str))) : p ∉ W ∧ H p = some (.lst (xs.map L2.V.str)) := by
  cases h with
  | lst n h r => rw [DfAll.strs' r] at h; exact ⟨n, h⟩
theorem Df.boolL {xs : List Bool} (h : Df W H (.ref p) (.list (xs.map PyData.bool))) : p ∉ W ∧ H p = some (.lst (xs.map L2.V.bl)) := by
  cases h with
  | lst n h r => rw [DfAll.bools' r] at h; exact ⟨n, h⟩
theorem Df.ofStrs {xs : List Str} (n : p ∉ W) (h : H p = some (.lst (xs.map L2.V.str))) : Df W H (.ref p) (.list (xs.map PyData.str)) := .lst n h (.strs xs)
theorem Df.cells (h : Df W H (.ref p) (.list ds)) : ∃ xs, p ∉ W ∧ H p = some (.lst xs) ∧ DfAll W H xs ds := by
  cases h with
  | lst n h r => exact ⟨_, n, h, r⟩
theorem Df.cellsT (h : Df W H (.ref p) (.tuple ds)) : ∃ xs, p ∉ W ∧ H p = some (.tup xs) ∧ DfAll W H xs ds := by
  cases h with
  | tup n h r => exact ⟨_, n, h, r⟩
theorem Df.isRefL (h : Df W H v (.list ds)) : ∃ p, v = .ref p := by
  cases h with
  | lst n h r => exact ⟨_, rfl⟩
theorem Df.isRefT (h : Df W H v (.tuple ds)) : ∃ p, v = .ref p := by
  cases h with
  | tup n h r => exact ⟨_, rfl⟩
theorem Df.nin (h : Df W H (.ref p) d) : p ∉ W := by
  cases h with
  | obj n _ => exact n
  | lst n _ _ => exact n
  | tup n _ _ => exact n
theorem Df.alive (h : Df W H (.ref p) d) : H p ≠ none := by
  cases h with
  | obj _ h => exact h
  | lst _ h _ => rw [h]; exact fun z => nomatch z
  | tup _ h _ => rw [h]; exact fun z => nomatch z
theorem Df.isStr {s : Str} (h : Df W H v (.str s)) : v = .str s := by cases h; rfl
theorem Df.isInt {s : Int} (h : Df W H v (.int s)) : v = .int s := by cases h; rfl
/-- a list that is being built at p -/
def Bld (W : List Addr) (H : Hp) (p : Addr) (ds : List PyData) : Prop := p ∉ W ∧ ∃ xs, H p = some (.lst xs) ∧ DfAll (p :: W) H xs ds
theorem Bld.done (h : Bld W H p ds) : Df W H (.ref p) (.list ds) := by
  obtain ⟨n, xs, h, r⟩ := h
  exact .lst n h (r.weak fun a z => List.mem_cons_of_mem _ z)
theorem Bld.ed (h : Bld W H p ds) (e : Ed U H H') (hv : ∀ a ∈ U, a ∈ W) : Bld W H' p ds := by
  obtain ⟨n, xs, h, r⟩ := h
  exact ⟨n, xs, e.1 _ _ (fun z => n (hv _ z)) h, r.ed e fun a z => List.mem_cons_of_mem _ (hv a z)⟩
theorem Bld.alive (h : Bld W H p ds) : H p ≠ none := by
  obtain ⟨n, xs, h, r⟩ := h
  rw [h]; exact fun z => nomatch z
end
/-! ### steps -/
section
variable {U W W' : List Addr} {H H' : Hp} {Q : VK} {v x y : L2.V} {d e : PyData} {vs : List L2.V} {ds es : List PyData} {K : PySem.W.Frag} {p q : Addr} {i : Int}
theorem g_dn (h : DfAll W H vs ds) (w : Wl W H) (k : ∀ p H', H p = none → Ed [] H H' → Df W H' (.ref p) (.list ds) → Q (.ref p) H') : ∀ p, H p = none → Q (.ref p) (upd H p (.lst vs)) :=
  fun p hp => k p _ hp (Ed.new hp) (.lst (w.not hp) upd_same (h.ed (Ed.new hp) no0))
theorem g_bap (h : Bld W H p ds) (hy : Df (p :: W) H y d) (z : ds.length < sizeLine) (k : ∀ H', Ed [p] H H' → Bld W H' p (ds ++ [d]) → Q .non H') : rAppend (.ref p) [y] H Q := by
  obtain ⟨n, xs, h, r⟩ := h
  refine ⟨p, xs, y, rfl, rfl, h, by rw [r.length]; exact z, k _ Ed.put ⟨n, _, upd_same, ?_⟩⟩
  exact (r.snoc hy).ed Ed.put fun a z => by rw [List.mem_singleton.mp z]; exact List.mem_cons_self ..
theorem at_df {xs : List L2.V} (r : DfAll W H xs ds) (z : atI ds i = some d) : ∃ v, atI xs i = some v ∧ Df W H v d := by
  unfold atI at z ⊢
  rw [r.length]
  cases e : ixN ds.length i with
  | none => rw [e] at z; cases z
  | some j =>
    rw [e] at z
    exact r.at z
theorem g_ixd (h : Df W H (.ref p) (.list ds)) (z : atI ds i = some d) (k : ∀ v, Df W H v d → Q v H) : dIx K (.ref p) (.int i) H Q := by
  obtain ⟨xs, n, hp, r⟩ := h.cells
  obtain ⟨v, h1, h2⟩ := at_df r z
  exact g_ix_l (Or.inl (SqL.of hp)) h1 (k v h2)
theorem g_lend (h : Df W H (.ref p) (.list ds)) (k : Q (.int ds.length) H) : dLen K [.ref p] H Q := by
  obtain ⟨xs, n, hp, r⟩ := h.cells
  exact g_len_l (Or.inl (SqL.of hp)) (by rw [r.length]; exact k)
theorem g_eqd (h1 : Df W H x d) (h2 : Df W' H y e) (s1 : Sh d) (s2 : Sh e) (k : Q (.bl (PyData.eqv d e)) H) : dEq K x y H Q := .inr ⟨d, e, h1.dp s1.2, h2.dp s2.2, s1.1, s2.1, k⟩
theorem g_ned (h1 : Df W H x d) (h2 : Df W' H y e) (s1 : Sh d) (s2 : Sh e) (k : Q (.bl (!PyData.eqv d e)) H) : dNe K x y H Q := .inr ⟨d, e, h1.dp s1.2, h2.dp s2.2, s1.1, s2.1, k⟩
theorem g_addd (h1 : Df W H (.ref p) (.list ds)) (h2 : Df W H (.ref q) (.list es)) (w : Wl W H) (z : ds.length + es.length ≤ sizeLine) (k : ∀ p H', H p = none → Ed [] H H' → Df W H' (.ref p) (.list (ds ++ es)) → Q (.ref p) H') : dAdd (.ref p) (.ref q) H Q := by
  obtain ⟨xs, n, hp, r⟩ := h1.cells
  obtain ⟨ys, m, hq, t⟩ := h2.cells
  exact ⟨xs, ys, hp, hq, by rw [r.length, t.length]; exact z, g_dn (r.app t) w k⟩
/-- list(p) -/
theorem g_listd (h : Df W H (.ref p) (.list ds)) (w : Wl W H) (k : ∀ p H', H p = none → Ed [] H H' → Df W H' (.ref p) (.list ds) → Q (.ref p) H') : dList K [.ref p] H Q := by
  obtain ⟨xs, n, hp, r⟩ := h.cells
  exact g_listL (Or.inl (SqL.of hp)) (g_dn r w k)
def cutD (xs : List PyData) (lo hi : Option Int) : List PyData := (xs.drop (HT.sIx xs.length 0 lo)).take (HT.sIx xs.length xs.length hi - HT.sIx xs.length 0 lo)
theorem g_sld {lo hi : Option Int} (h : Df W H (.ref p) (.list ds)) (w : Wl W H) (k : ∀ p H', H p = none → Ed [] H H' → Df W H' (.ref p) (.list (cutD ds lo hi)) → Q (.ref p) H') : dSl K (.ref p) lo hi H Q := by
  obtain ⟨xs, n, hp, r⟩ := h.cells
  refine g_slL (SqL.of hp) (g_dn (ds := cutD ds lo hi) ?_ w k)
  unfold cutV cutD
  rw [r.length]
  exact (r.drop _).take _
theorem g_inds {t : Str} {ns : List Str} (h : Df W H (.ref p) (.list (ns.map PyData.str))) (k : Q (.bl (decide (t ∈ ns))) H) : dIn K (.str t) (.ref p) H Q := g_inLs (Or.inl (SqL.of h.strL.2)) k
theorem g_ninds {t : Str} {ns : List Str} (h : Df W H (.ref p) (.list (ns.map PyData.str))) (k : Q (.bl (!decide (t ∈ ns))) H) : dNotIn K (.str t) (.ref p) H Q := g_ninLs (Or.inl (SqL.of h.strL.2)) k
theorem g_joind {a : Str} {ys : List Str} (h : Df W H (.ref p) (.list (ys.map PyData.str))) (z2 : (ys.map (·.length)).sum + ys.length * a.length ≤ 16777216) (k : Q (.str (Txt.join a ys)) H) : dJoin K (.str a) [.ref p] H Q := g_join (Or.inl (SqL.of h.strL.2)) z2 k
/-- a tuple unpacked -/
theorem g_gtupd {n : Nat} {t : TGs} {σ : L2.St} {QS : L2.St → Hp → Prop} (h : Df W H (.ref p) (.tuple ds)) (z : ds.length = n) (k : ∀ xs, DfAll W H xs ds → t xs σ H QS) : gTL K n t (.ref p) σ H QS := by
  obtain ⟨xs, n, hp, r⟩ := h.cellsT
  exact g_gtup (SqT.of hp) (by rw [r.length]; exact z) (k xs r)
theorem g_iLd {Z : Addr → Prop} (z : Df W H (.ref p) (.list ds)) (h : Z p) : ∃ a, L2.V.ref p = .ref a ∧ (∃ xs, SqL K H a xs) ∧ Z a := by
  obtain ⟨xs, n, hp, r⟩ := z.cells
  exact ⟨p, rfl, ⟨xs, SqL.of hp⟩, h⟩
theorem g_iEd {Z : Addr → Prop} (z : Df W H (.ref p) (.list ds)) (h : Z p) : ∃ a xs, [L2.V.ref p] = [.ref a] ∧ SqL K H a xs ∧ Z a := by
  obtain ⟨xs, n, hp, r⟩ := z.cells
  exact ⟨p, xs, rfl, SqL.of hp, h⟩
end
section
variable {W : List Addr} {H H' : Hp} {p : Addr} {vs : List L2.V} {ds : List PyData} {ts : List Str}
theorem new_l (h : upd H p (.lst vs) = H') (hp : H p = none) (r : DfAll W H vs ds) (w : Wl W H) : Ed [] H H' ∧ Df W H' (.ref p) (.list ds) := by
  subst h
  exact ⟨Ed.new hp, .lst (w.not hp) upd_same (r.ed (Ed.new hp) no0)⟩
theorem new_t (h : upd H p (.tup vs) = H') (hp : H p = none) (r : DfAll W H vs ds) (w : Wl W H) : Ed [] H H' ∧ Df W H' (.ref p) (.tuple ds) := by
  subst h
  exact ⟨Ed.new hp, .tup (w.not hp) upd_same (r.ed (Ed.new hp) no0)⟩
theorem new_b (h : upd H p (.lst []) = H') (hp : H p = none) (w : Wl W H) : Ed [] H H' ∧ Bld W H' p [] := by
  subst h
  exact ⟨Ed.new hp, w.not hp, [], upd_same, .nil⟩
theorem new_s (h : upd H p (.lst (ts.map L2.V.str)) = H') (hp : H p = none) (w : Wl W H) : Ed [] H H' ∧ Df W H' (.ref p) (.list (ts.map PyData.str)) := new_l h hp (.strs ts) w
end
/-! ### loops over data -/
section
variable {U W : List Addr} {H H' : Hp} {σ : L2.St} {ds : List PyData} {K : PySem.W.Frag} {p : Addr} {g : TG} {tb : TS} {nx : L2.St → Hp → Prop} {rt : VK} {bk ct : L2.St → Hp → Prop}
theorem lp_df (h : Df W H (.ref p) (.list ds)) (Pv : Nat → L2.St → Hp → Prop) (h0 : Pv 0 σ H) (hk : ∀ i σ' H', i ≤ ds.length → Pv i σ' H' → Ed W H H')
    (hs : ∀ i x d σ' H', ds[i]? = some d → Pv i σ' H' → Df W H' x d → g x σ' H' fun σ2 H2 => tb ⟨Pv (i + 1), rt, nx, Pv (i + 1)⟩ σ2 H2) (hn : ∀ σ' H', Pv ds.length σ' H' → nx σ' H') : Loop (Itl K p) g tb ⟨nx, rt, bk, ct⟩ σ H := by
  obtain ⟨xs, n, hp, r⟩ := h.cells
  refine lp_it (walk_list (xs := xs)) Pv h0 (fun i σ' H' hi hP => SqL.of ((hk i σ' H' (by rw [← r.length]; exact hi) hP).1 _ _ n hp)) ?_ (by rw [r.length]; exact hn)
  rintro i x σ' H' H2 hi hP ⟨rfl, e⟩
  have ee := hk i σ' _ (by rw [← r.length]; omega) hP
  obtain ⟨d, e1, e2⟩ := (r.ed ee fun _ z => z).at' e
  exact hs i x d σ' _ e1 hP e2
variable {tt : TT} {te : TE} {ws : List Nat} {D : Addr} {Qd : Hp → Prop}
/-- a list comprehension: an invariant over what is made so far; J1 of the heap -/
theorem lc_gen {σw : L2.St} (hσ : wipe σ ws = σw) {J : It} {n : Nat} {G : Hp → Prop} {Y : Nat → Hp → L2.V → Hp → Prop} (w : Walk J n G Y) (hn : n < sizeLine) (hD : H D = none) (hw : Wl W H) (hV : ∀ a ∈ U, a ∈ W) (I : Nat → List PyData → Prop) (J1 : Hp → Prop) (hJ : ∀ H' H'', J1 H' → Ed [D] H' H'' → J1 H'') (hJ0 : J1 H) (hI0 : I 0 [])
    (hG : ∀ H', Ed U H H' → G H')
    (hs : ∀ i x acc H' H2 (R : VK) (N : Hp → Prop), i < n → I i acc → J1 H' → Ed U H H' → Wl (D :: W) H' → Y i H' x H2 → (∀ y H4 dy, Ed U H' H4 → Df (D :: W) H4 y dy → J1 H4 → I (i + 1) (acc ++ [dy]) → R y H4) → (∀ H3, Ed U H' H3 → J1 H3 → I (i + 1) acc → N H3) →
      g x σw H2 fun σ2 H2 => wipe σ2 ws = σw ∧ tt σ2 H2 fun b H3 => if b = true then te σ2 H3 R else N H3)
    (hd : ∀ acc H', I n acc → J1 H' → Ed U H H' → Df W H' (.ref D) (.list acc) → acc.length ≤ n → Qd H') : LoopC J g tt te ws σ H D Qd := by
  subst hσ
  have nD : D ∉ U := fun z => hw D (hV D z) hD
  have nDW : D ∉ W := fun z => hw D z hD
  have e0 : ∀ {H1 H2 : Hp} {T : List Addr}, Ed U H H1 → Ed T H1 H2 → (∀ a ∈ T, a ∈ U ∨ a = D) → Ed U H H2 := fun h1 h2 hu => Ed.tr h1 h2 fun a ha => (hu a ha).elim .inl fun z => .inr (z ▸ hD)
  refine lc_by w (fun i H' => ∃ acc, Ed U H H' ∧ J1 H' ∧ I i acc ∧ Bld W H' D acc ∧ acc.length ≤ i) ⟨[], e0 Ed.refl (Ed.new hD) (no0), hJ _ _ hJ0 Ed.put, hI0, ⟨nDW, [], upd_same, .nil⟩, Nat.le_refl _⟩ (fun i H' _ ⟨acc, h1, _⟩ => hG _ h1) ?_ ?_
  · rintro i x H1 H2 hi ⟨acc, h1, h2, h3, h4, h5⟩ hy
    have hD1 : H1 D ≠ none := h4.alive
    refine hs i x acc H1 H2 _ _ hi h3 h2 h1 (fun a ha => ?_) hy ?_ ?_
    · rcases List.mem_cons.mp ha with rfl | ha
      · exact hD1
      · exact hw.ed h1 a ha
    · intro y H4 dy z4 z5 z6 z7
      obtain ⟨m, xs, z8, z9⟩ := h4.ed z4 hV
      exact ⟨xs, z8, by rw [z9.length]; omega, acc ++ [dy], e0 (e0 h1 z4 fun a h => .inl h) Ed.put (fun a h => .inr (List.mem_singleton.mp h)), hJ _ _ z6 Ed.put, z7, ⟨nDW, _, upd_same, (z9.snoc z5).ed Ed.put fun a z => by rw [List.mem_singleton.mp z]; exact List.mem_cons_self ..⟩, by rw [List.length_append, List.length_singleton]; omega⟩
    · intro H3 z3 z4 z5
      exact ⟨acc, e0 h1 z3 fun a h => .inl h, z4, z5, h4.ed z3 hV, by omega⟩
  · rintro H1 ⟨acc, h1, h2, h3, h4, h5⟩
    exact hd acc H1 h3 h2 h1 h4.done h5
/-- over a list of data -/
theorem lc_df {σw : L2.St} (hσ : wipe σ ws = σw) (h : Df W H (.ref p) (.list ds)) (hn : ds.length < sizeLine) (hD : H D = none) (hw : Wl W H) (hV : ∀ a ∈ U, a ∈ W) (I : Nat → List PyData → Prop) (J1 : Hp → Prop) (hJ : ∀ H' H'', J1 H' → Ed [D] H' H'' → J1 H'') (hJ0 : J1 H) (hI0 : I 0 [])
    (hs : ∀ i x d acc H' (R : VK) (N : Hp → Prop), ds[i]? = some d → I i acc → J1 H' → Ed U H H' → Wl (D :: W) H' → Df (D :: W) H' x d → (∀ y H4 dy, Ed U H' H4 → Df (D :: W) H4 y dy → J1 H4 → I (i + 1) (acc ++ [dy]) → R y H4) → (∀ H3, Ed U H' H3 → J1 H3 → I (i + 1) acc → N H3) →
      g x σw H' fun σ2 H2 => wipe σ2 ws = σw ∧ tt σ2 H2 fun b H3 => if b = true then te σ2 H3 R else N H3)
    (hd : ∀ acc H', I ds.length acc → J1 H' → Ed U H H' → Df W H' (.ref D) (.list acc) → acc.length ≤ ds.length → Qd H') : LoopC (Itl K p) g tt te ws σ H D Qd := by
  have h' := h.more hD
  obtain ⟨xs, n, hp, r⟩ := h'.cells
  have hVW : ∀ a ∈ U, a ∈ D :: W := fun a z => List.mem_cons_of_mem _ (hV a z)
  have l := r.length
  refine lc_gen hσ (walk_list (xs := xs)) (by rw [l]; exact hn) hD hw hV I J1 hJ hJ0 hI0 (fun H' e => SqL.of (e.1 _ _ (fun z => n (hVW _ z)) hp)) ?_ (by rw [l]; exact hd)
  rintro i x acc H1 H2 R N hi h1 h2 h3 h4 ⟨rfl, e⟩ h5 h6
  obtain ⟨d, e1, e2⟩ := (r.ed h3 hVW).at' e
  exact hs i x d acc _ R N e1 h1 h2 h3 h4 e2 h5 h6
/-- over range(n) -/
theorem lc_rg {σw : L2.St} (hσ : wipe σ ws = σw) {n : Nat} {lo : Int} (hn : n < sizeLine) (hD : H D = none) (hw : Wl W H) (hV : ∀ a ∈ U, a ∈ W) (I : Nat → List PyData → Prop) (J1 : Hp → Prop) (hJ : ∀ H' H'', J1 H' → Ed [D] H' H'' → J1 H'') (hJ0 : J1 H) (hI0 : I 0 [])
    (hs : ∀ i acc H' (R : VK) (N : Hp → Prop), i < n → I i acc → J1 H' → Ed U H H' → Wl (D :: W) H' → (∀ y H4 dy, Ed U H' H4 → Df (D :: W) H4 y dy → J1 H4 → I (i + 1) (acc ++ [dy]) → R y H4) → (∀ H3, Ed U H' H3 → J1 H3 → I (i + 1) acc → N H3) →
      g (.int (lo + (i : Nat))) σw H' fun σ2 H2 => wipe σ2 ws = σw ∧ tt σ2 H2 fun b H3 => if b = true then te σ2 H3 R else N H3)
    (hd : ∀ acc H', I n acc → J1 H' → Ed U H H' → Df W H' (.ref D) (.list acc) → acc.length ≤ n → Qd H') : LoopC (Itr lo n) g tt te ws σ H D Qd := by
  refine lc_gen hσ walk_range hn hD hw hV I J1 hJ hJ0 hI0 (fun _ _ => trivial) ?_ hd
  rintro i x acc H1 H2 R N hi h1 h2 h3 h4 ⟨rfl, rfl⟩ h5 h6
  exact hs i acc _ R N hi h1 h2 h3 h4 h5 h6
/-- over enumerate(list) -/
theorem lc_en {σw : L2.St} (hσ : wipe σ ws = σw) (h : Df W H (.ref p) (.list ds)) (hn : ds.length < sizeLine) (hD : H D = none) (hw : Wl W H) (hV : ∀ a ∈ U, a ∈ W) (I : Nat → List PyData → Prop) (J1 : Hp → Prop) (hJ : ∀ H' H'', J1 H' → Ed [D] H' H'' → J1 H'') (hJn : ∀ H' H'', J1 H' → Ed [] H' H'' → J1 H'') (hJ0 : J1 H) (hI0 : I 0 [])
    (hs : ∀ i x t d acc H' (R : VK) (N : Hp → Prop), ds[i]? = some d → I i acc → J1 H' → Ed U H H' → Wl (D :: W) H' → SqT K H' t [.int (i : Nat), x] → Df (D :: W) H' x d → (∀ y H4 dy, Ed U H' H4 → Df (D :: W) H4 y dy → J1 H4 → I (i + 1) (acc ++ [dy]) → R y H4) → (∀ H3, Ed U H' H3 → J1 H3 → I (i + 1) acc → N H3) →
      g (.ref t) σw H' fun σ2 H2 => wipe σ2 ws = σw ∧ tt σ2 H2 fun b H3 => if b = true then te σ2 H3 R else N H3)
    (hd : ∀ acc H', I ds.length acc → J1 H' → Ed U H H' → Df W H' (.ref D) (.list acc) → acc.length ≤ ds.length → Qd H') : LoopC (Ite K p) g tt te ws σ H D Qd := by
  have h' := h.more hD
  obtain ⟨xs, n, hp, r⟩ := h'.cells
  have hVW : ∀ a ∈ U, a ∈ D :: W := fun a z => List.mem_cons_of_mem _ (hV a z)
  have l := r.length
  refine lc_gen hσ (walk_enum (xs := xs)) (by rw [l]; exact hn) hD hw hV I J1 hJ hJ0 hI0 (fun H' e => SqL.of (e.1 _ _ (fun z => n (hVW _ z)) hp)) ?_ (by rw [l]; exact hd)
  rintro i x acc H1 H2 R N hi h1 h2 h3 h4 ⟨t, x1, y1, rfl, ht, rfl, e1, e2⟩ h5 h6
  cases e1
  obtain ⟨d, e3, e4⟩ := (r.ed h3 hVW).at' e2
  have e5 : Ed [] H1 (upd H1 t (.tup [.int (i : Nat), y1])) := Ed.new ht
  exact hs i _ t d acc _ R N e3 h1 (hJn _ _ h2 e5) (h3.tr e5 no0) (h4.ed e5) (SqT.of upd_same) (e4.ed e5 no0) (fun y H4 dy k1 => h5 y H4 dy ((Ed.tr Ed.refl e5 no0).tr k1 fun a z => .inl z)) (fun H3 k1 => h6 H3 ((Ed.tr Ed.refl e5 no0).tr k1 fun a z => .inl z))
end
end NL
namespace NL
open PySem L2
/-- the bag of draws at b: two ints -/
def Bag (H : Hp) (b : Addr) : Prop := ∃ x y : Int, H b = some (.lst [.int x, .int y])
theorem Bag.at {H : Hp} {b : Addr} {x y : Int} : Bag (upd H b (.lst [.int x, .int y])) b := ⟨x, y, upd_same⟩
theorem Bag.new {H : Hp} {b p : Addr} {o : HO} (h : Bag H b) (n : H p = none) : Bag (upd H p o) b := by
  obtain ⟨x, y, e⟩ := h
  exact ⟨x, y, by rw [upd_ne (ne_of_none e n)]; exact e⟩
theorem Bag.put {H : Hp} {b p : Addr} {o : HO} (h : Bag H b) (n : b ≠ p) : Bag (upd H p o) b := by
  obtain ⟨x, y, e⟩ := h
  exact ⟨x, y, by rw [upd_ne n]; exact e⟩
theorem Bag.ne {H : Hp} {b p : Addr} (h : Bag H b) (n : H p = none) : p ≠ b := by
  obtain ⟨x, y, e⟩ := h
  exact (ne_of_none e n).symm
section
variable {U W : List Addr} {H H' : Hp} {b p a : Addr} {ds es : List PyData} {d : PyData} {K : PySem.W.Frag}
theorem Bag.ed (h : Bag H b) (e : Ed U H H') (n : b ∉ U) : Bag H' b := by
  obtain ⟨x, y, q⟩ := h
  exact ⟨x, y, e.1 _ _ n q⟩
theorem Bag.alive (h : Bag H b) : H b ≠ none := by
  obtain ⟨x, y, q⟩ := h
  rw [q]; exact fun z => nomatch z
theorem sub1 (h : b ∈ W) : ∀ a ∈ [b], a ∈ W := fun a z => by rw [List.mem_singleton.mp z]; exact h
theorem subr : ∀ a ∈ W, a ∈ W := fun _ z => z
theorem subc {U : List Addr} (h : ∀ a ∈ U, a ∈ W) : ∀ a ∈ U, a ∈ b :: W := fun a z => List.mem_cons_of_mem _ (h a z)
theorem edv1 (h : b ∈ U ∨ H b = none) : ∀ a ∈ [b], a ∈ U ∨ H a = none := fun a z => by rw [List.mem_singleton.mp z]; exact h
theorem edvl {V : List Addr} (h : ∀ a ∈ V, a ∈ U) : ∀ a ∈ V, a ∈ U ∨ H a = none := fun a z => .inl (h a z)
theorem Wl.cons' (h : H a ≠ none) (r : Wl W H) : Wl (a :: W) H := fun c hc => by
  rcases List.mem_cons.mp hc with rfl | hc
  · exact h
  · exact r c hc
theorem Wl.tail (h : Wl (a :: W) H) : Wl W H := fun c hc => h c (List.mem_cons_of_mem _ hc)
theorem nb_bld (h : Bld W H p ds) (hb : b ∈ W) : b ∉ [p] := fun z => h.1 (by rw [← List.mem_singleton.mp z]; exact hb)
theorem nb_wl (w : Wl W H) (hp : H p = none) (hb : b ∈ W) : b ∉ [p] := fun z => w b hb (by rw [List.mem_singleton.mp z]; exact hp)
theorem Ed.weak {V : List Addr} (e : Ed U H H') (h : ∀ a ∈ U, a ∈ V) : Ed V H H' := ⟨fun a o n q => e.1 a o (fun z => n (h a z)) q, e.2⟩
end
section
variable {U W : List Addr} {H0 H1 H2 : Hp} {p q b : Addr} {v : V} {d : PyData} {ds : List PyData}
theorem Df.via (e : Ed [p] H1 H2) (hp : H0 p = none) (ed : Ed W H0 H2) (h : Df W H0 v d) : Df W H2 v d := h.ed ed subr
theorem Bld.via (e : Ed [p] H1 H2) (hp : H0 p = none) (ed : Ed W H0 H2) (h : Bld W H0 q ds) : Bld W H2 q ds := h.ed ed subr
theorem Bag.via (e : Ed [p] H1 H2) (hp : H0 p = none) (ed : Ed [] H0 H2) (h : Bag H0 b) : Bag H2 b := h.ed ed List.not_mem_nil
end
/-- what lies in H lies in H' -/
def Al (H H' : Hp) : Prop := ∀ a, H a ≠ none → H' a ≠ none
theorem Al.refl {H : Hp} : Al H H := fun _ h => h
theorem Al.of {U : List Addr} {H0 H1 H2 : Hp} (e : Ed U H1 H2) (h : Al H0 H1) : Al H0 H2 := fun a z => e.2 a (h a z)
theorem Al.free {H H' : Hp} {a : Addr} (e : Al H H') (h : H' a = none) : H a = none := by
  by_cases z : H a = none
  · exact z
  · exact absurd h (e a z)
theorem bagJ {W : List Addr} {H : Hp} {b D : Addr} (w : Wl W H) (hD : H D = none) (hb : b ∈ W) : ∀ H' H'', Bag H' b → Ed [D] H' H'' → Bag H'' b := fun _ _ h e => h.ed e (nb_wl w hD hb)
theorem eqv_nil {ds : List PyData} : PyData.eqv (.list ds) (.list []) = ds.isEmpty := by
  cases ds with
  | nil => rfl
  | cons d r => simp [PyData.eqv, PyData.eqvAll]
theorem Sh.strs {xs : List Str} (h : ∀ x ∈ xs, PyData.strOk x = true) : Sh (.list (xs.map PyData.str)) := (Sd.list (n := 0) (Sd.map fun x hx => Sd.str (h x hx))).sh (by decide)
theorem Sh.nil : Sh (.list []) := (Sd.list (n := 0) Sd.nil).sh (by decide)
theorem Sh.ints {xs : List Int} : Sh (.list (xs.map PyData.int)) := (Sd.list (n := 0) (Sd.map fun x hx => Sd.int x)).sh (by decide)
theorem g_tyB {K : PySem.W.Frag} {W : List Addr} {H : Hp} {p : Addr} {ds : List PyData} {R : Prop} (h : Bld W H p ds) (k : R) : tyV K "list" (.ref p) H ∧ R := by
  obtain ⟨_, xs, h, _⟩ := h
  exact g_tyL (SqL.of h) k
theorem g_tyD {K : PySem.W.Frag} {W : List Addr} {H : Hp} {p : Addr} {ds : List PyData} {R : Prop} (h : Df W H (.ref p) (.list ds)) (k : R) : tyV K "list" (.ref p) H ∧ R := by
  obtain ⟨xs, _, h, _⟩ := h.cells
  exact g_tyL (SqL.of h) k
/-! ### more rules -/
section
variable {X : Cx} (K : PySem.W.Frag) {e e2 : Expr} {ta : TA} {p pos tpos : Pos} {elts : List Expr} {kk : Nat}
end
section
variable {U V W : List Addr} {H H' : Hp} {σ : L2.St} {ds es : List PyData} {K : PySem.W.Frag} {p q : Addr} {Q : VK}
theorem g_iZ {ta : TA} {R : It → Hp → Prop} (h : ta σ H fun vs H1 => ∃ a b xs ys, vs = [.ref a, .ref b] ∧ SqL K H1 a xs ∧ SqL K H1 b ys ∧ R (Itz K a b) H1) : iZip K ta σ H R := h
theorem g_iZd {Z : Addr → Addr → Prop} (z1 : Df W H (.ref p) (.list ds)) (z2 : Df W H (.ref q) (.list es)) (h : Z p q) : ∃ a b xs ys, [L2.V.ref p, L2.V.ref q] = [.ref a, .ref b] ∧ SqL K H a xs ∧ SqL K H b ys ∧ Z a b := by
  obtain ⟨xs, n, hp, r⟩ := z1.cells
  obtain ⟨ys, m, hq, t⟩ := z2.cells
  exact ⟨p, q, xs, ys, rfl, SqL.of hp, SqL.of hq, h⟩
theorem g_allB {bs : List Bool} (h : Df W H (.ref p) (.list (bs.map PyData.bool))) (k : Q (.bl (bs.all id)) H) : rAll K [.ref p] H Q := ⟨p, bs, rfl, SqL.of h.boolL.2, k⟩
variable {g : TG} {tb : TS} {nx : L2.St → Hp → Prop} {rt : VK} {bk ct : L2.St → Hp → Prop}
end
/-! ### a cut: what comes behind an if, once -/
def tSeqC (t u : TS) : TS := tSeq t u
theorem pss_cut {X : Cx} {s : Stmt} {r : List Stmt} {t u : TS} (h1 : PS X s t) (h2 : PSs X r u) : PSs X (s :: r) (tSeqC t u) := pss_cons h1 h2
theorem g_cut {t u : TS} {nx : L2.St → Hp → Prop} {rt : VK} {bk ct : L2.St → Hp → Prop} {σ : L2.St} {H : Hp} (I : L2.St → Hp → Prop) (h1 : ∀ R : L2.St → Hp → Prop, (∀ σ' H', I σ' H' → R σ' H') → t ⟨R, rt, bk, ct⟩ σ H) (h2 : ∀ σ' H', I σ' H' → u ⟨nx, rt, bk, ct⟩ σ' H') : tSeqC t u ⟨nx, rt, bk, ct⟩ σ H := h1 _ h2
theorem g_par {i j : Nat} {ta : TA} {nx : L2.St → Hp → Prop} {rt : VK} {bk ct : L2.St → Hp → Prop} {σ : L2.St} {H : Hp} (h : ta σ H fun vs H1 => ∃ v w, vs = [v, w] ∧ gName i v σ H1 fun σ1 H2 => gName j w σ1 H2 nx) : tPar i j ta ⟨nx, rt, bk, ct⟩ σ H := h
theorem g_par2 {v w : V} {Z : V → V → Prop} (h : Z v w) : ∃ a b, [v, w] = [a, b] ∧ Z a b := ⟨v, w, rfl, h⟩
theorem g_iTd {K : PySem.W.Frag} {W : List Addr} {H : Hp} {p : Addr} {ds : List PyData} {Z : Addr → Prop} (z : Df W H (.ref p) (.tuple ds)) (h : Z p) : ∃ a, V.ref p = .ref a ∧ (∃ xs, SqT K H a xs) ∧ Z a := by
  obtain ⟨xs, n, hp, r⟩ := z.cellsT
  exact ⟨p, rfl, ⟨xs, SqT.of hp⟩, h⟩
theorem g_uncut {t u : TS} {D : Ends} {σ : L2.St} {H : Hp} (h : tSeq t u D σ H) : tSeqC t u D σ H := h
/-! ### dicts of texts -/
section
variable {U W : List Addr} {H H' : Hp} {p : Addr} {K : PySem.W.Frag} {Q : VK}
/-- the dict kvs lies at p, p is not in W -/
def Dk (W : List Addr) (H : Hp) (p : Addr) (kvs : List (Key × V)) : Prop := p ∉ W ∧ H p = some (.dK kvs)
theorem Dk.ed {kvs : List (Key × V)} (h : Dk W H p kvs) (e : Ed U H H') (hv : ∀ a ∈ U, a ∈ W) : Dk W H' p kvs := ⟨h.1, e.1 _ _ (fun z => h.1 (hv _ z)) h.2⟩
theorem Dk.more {kvs : List (Key × V)} {q : Addr} (hq : H q = none) (h : Dk W H p kvs) : Dk (q :: W) H p kvs := ⟨fun z => (List.mem_cons.mp z).elim (ne_of_none h.2 hq) h.1, h.2⟩
theorem Dk.via {kvs : List (Key × V)} {H0 H1 H2 : Hp} {q : Addr} (e : Ed [q] H1 H2) (hq : H0 q = none) (ed : Ed W H0 H2) (h : Dk W H0 p kvs) : Dk W H2 p kvs := h.ed ed subr
theorem Dk.df {kvs : List (Key × V)} (h : Dk W H p kvs) : Df W H (.ref p) (ob p) := .obj h.1 (by rw [h.2]; exact fun z => nomatch z)
theorem Dk.alive {kvs : List (Key × V)} (h : Dk W H p kvs) : H p ≠ none := by rw [h.2]; exact fun z => nomatch z
theorem new_d {kvs : List (Key × V)} {H1 : Hp} (h : upd H' p (.dK kvs) = H1) (w : Wl W H) (hp : H p = none) : Ed [p] H' H1 ∧ Dk W H1 p kvs := by
  subst h
  exact ⟨Ed.put, w.not hp, upd_same⟩
/-- an object made, its __init__ ahead -/
theorem new_i {C x dx : Addr} {H1 : Hp} (h : upd (upd H dx (.own x)) x (.ins C dx []) = H1) (hx : H x = none) (hd : H dx = none) (ne : dx ≠ x) : Ed [] H H1 ∧ H1 x = some (.ins C dx []) := by
  subst h
  refine ⟨⟨fun a o _ e => ?_, fun a z => ?_⟩, upd_same⟩
  · rw [upd_ne (ne_of_none e hx), upd_ne (ne_of_none e hd)]; exact e
  · rw [upd_ne (fun q : a = x => z (by rw [q]; exact hx)), upd_ne (fun q : a = dx => z (by rw [q]; exact hd))]; exact z
theorem g_disp {trs : List (TE × TE)} {σ : L2.St} (h : ∀ p H0, H p = none → Ed [] H H0 → H0 p = some (.dK []) → tPairs trs σ H0 fun ps H2 => H2 p = some (.dK []) ∧ ∃ kvs : List (Key × V), ps = kvs.map (fun kv => (kV kv.1, kv.2)) ∧ kvs.length ≤ 15 ∧ Q (.ref p) (upd H2 p (.dK (mergeK [] kvs)))) : tDisp trs σ H Q :=
  fun p hp => h p _ hp (Ed.new hp) upd_same
theorem g_pr0 {σ : L2.St} {QP : List (V × V) → Hp → Prop} (h : QP [] H) : tPairs [] σ H QP := h
theorem g_pr {σ : L2.St} {tk tv : TE} {trs : List (TE × TE)} {QP : List (V × V) → Hp → Prop} (h : tk σ H fun x H1 => tv σ H1 fun y H2 => tPairs trs σ H2 fun ps H3 => QP ((x, y) :: ps) H3) : tPairs ((tk, tv) :: trs) σ H QP := h
theorem g_din {σ : L2.St} {td ty : TE} (h : ty σ H fun y H1 => td σ H1 fun x H2 => ∃ a o, x = .ref a ∧ DGet H2 a y o ∧ Q (.bl o.isSome) H2) : tDIn ty td σ H Q := h
theorem g_dnin {σ : L2.St} {td ty : TE} (h : ty σ H fun y H1 => td σ H1 fun x H2 => ∃ a o, x = .ref a ∧ DGet H2 a y o ∧ Q (.bl (!o.isSome)) H2) : tDNotIn ty td σ H Q := h
theorem g_dind {kvs : List (Key × V)} {z : Str} {o : Option V} {Z : Option V → Prop} (z1 : Dk W H p kvs) (z2 : valV kvs (.inr z) = o) (h : Z o) : ∃ a o, V.ref p = .ref a ∧ DGet H a (.str z) o ∧ Z o := ⟨p, o, rfl, .inl ⟨kvs, .inr z, .inl z1.2, rfl, z2.symm⟩, h⟩
theorem g_dget2 {σ : L2.St} {td ty tx : TE} (h : td σ H fun x H1 => ∃ a, x = .ref a ∧ IsD H1 a ∧ ty σ H1 fun y H2 => tx σ H2 fun z H3 => ∃ o, DGet H3 a y o ∧ Q (o.getD z) H3) : tDGet2 td ty tx σ H Q := h
theorem g_isd {kvs : List (Key × V)} {Z : Addr → Prop} (z1 : Dk W H p kvs) (h : Z p) : ∃ a, V.ref p = .ref a ∧ IsD H a ∧ Z a := ⟨p, rfl, .inl ⟨kvs, .inl z1.2⟩, h⟩
theorem g_dgd {kvs : List (Key × V)} {z : Str} {v : V} {Z : V → Prop} (z1 : Dk W H p kvs) (z2 : valV kvs (.inr z) = some v) (h : Z v) : ∃ a v, V.ref p = .ref a ∧ DGet H a (.str z) (some v) ∧ Z v := g_dgs z1.2 z2 h
end
end NL
namespace NL
open PySem L2
/-! ### a, b, *rest = a list -/
section
variable {X : Cx} {pos p : Pos}
end
/-! ### a class called by a local name -/
section
variable {X : Cx} {k i : Nat} {x m : Str} {C : Addr} {e o : Expr} {es : List Expr} {t : TA} {ta : TE} {p pos apos : Pos} {ps : List Str} {sp : Sp} {W : WX}
def tMakeL (i : Nat) (C : Addr) (sp : Sp) (E : L2.St → XK) (t : TA) : TE := fun σ H Q => σ[i]? = some (some (.ref C)) ∧ tMakeS C sp E t σ H Q
theorem g_makeL {E : L2.St → XK} {σ : L2.St} {H : Hp} {Q : VK} (e1 : σ[i]? = some (some (.ref C))) (h : tMakeS C sp E t σ H Q) : tMakeL i C sp E t σ H Q := ⟨e1, h⟩
/-! ### classmethods -/
structure CmC (P : Program) (w : World) (K : PySem.W.Frag) (mg : Str → Option Value) (base : Heap) (k : Nat) (C : Addr) (m : Str) (ps : List Str) (sp : Sp) : Prop where
  rd : ClX.CRead K C (.type "type")
  fn : ∃ (p g : Addr) (fd : FuncData), ClX.CMet K C (.type "type") m p g ∧ Binds K fd ps [] ∧ FnOk P w K mg base (L2.CX P w) k g fd ps sp
def tCM (C : Addr) (sp : Sp) (E : L2.St → XK) (ta : TE) (t : TA) : TE := fun σ H Q => ta σ H fun x H1 => x = .ref C ∧ t σ H1 fun vs H2 => sp (.ref C :: vs) H2 Q (E σ)
theorem g_cm {E : L2.St → XK} {σ : L2.St} {H : Hp} {Q : VK} (h : ta σ H fun x H1 => x = .ref C ∧ t σ H1 fun vs H2 => sp (.ref C :: vs) H2 Q (E σ)) : tCM C sp E ta t σ H Q := h
end
/-! ### the facts of classmethods; a hook that knows the interpreter's statics -/
inductive Fy where
  | crd (x : Str) | cm (x m : Str)
def Fy.ok (K : PySem.W.Frag) : Fy → Bool
  | .crd x => PySem.W.readsIn K (He.ga K x) (.type "type")
  | .cm x m => He5.wrapB K (He.ga K x) "classmethod" "classmethod.__get__" m && PySem.W.fnIn K (He5.wf K (He.ga K x) "classmethod" m)
def fyB (l : List Fy) (K : PySem.W.Frag) : Bool := l.all fun f => f.ok K
def obsN0 (fn : List He5.DefA) (ex : PySem.W.Frag → Bool) (K : PySem.W.Frag) : He.AlD := (ex K && fn.all fun d => d.ok K, fn.map fun d => He5.fnA K (d.at_ K))
def SaysN (fn : List He5.DefA) (ex : PySem.W.Frag → Bool) (K : PySem.W.Frag) : Prop := obsN0 fn ex K = He5.valA fn
theorem SaysN.more {fn : List He5.DefA} {ex : PySem.W.Frag → Bool} {K : PySem.W.Frag} (c : SaysN fn ex K) : ex K = true := by
  have q : (ex K && fn.all fun d => d.ok K) = true := congrArg (fun z : He.AlD => z.1) c
  rw [Bool.and_eq_true] at q
  exact q.1
theorem SaysN.def_ {fn : List He5.DefA} {ex : PySem.W.Frag → Bool} {K : PySem.W.Frag} (c : SaysN fn ex K) (i : Nat) {d : He5.DefA} (h : fn[i]? = some d := by rfl) : ∃ fd, L2.FunD K d.name d.qual d.params d.body d.scope (d.dvs K) (d.kws K) (d.at_ K) fd := by
  have q : (ex K && fn.all fun d => d.ok K) = true := congrArg (fun z : He.AlD => z.1) c
  rw [Bool.and_eq_true] at q
  have e : fn.map (fun d => He5.fnA K (d.at_ K)) = fn.map He5.DefA.val := congrArg (fun z : He.AlD => z.2) c
  have e2 : (fn.map fun d => He5.fnA K (d.at_ K))[i]? = (fn.map He5.DefA.val)[i]? := by rw [e]
  rw [List.getElem?_map, List.getElem?_map, h] at e2
  exact He5.DefA.funD (Option.some.inj e2) (List.all_eq_true.mp q.2 d (List.mem_of_getElem? h))
/-! ### list(text), tuple(x), dict(d), a, b, c = x, y, z -/
def sgn (x : Str) : List Str := x.cps.toList.map fun c => (⟨#[c]⟩ : Str)
theorem g_par3 {i j l : Nat} {ta : TA} {nx : L2.St → Hp → Prop} {rt : VK} {bk ct : L2.St → Hp → Prop} {σ : L2.St} {H : Hp} (h : ta σ H fun vs H1 => ∃ u v w, vs = [u, v, w] ∧ gName i u σ H1 fun σ1 H2 => gName j v σ1 H2 fun σ2 H3 => gName l w σ2 H3 nx) : tPar3 i j l ta ⟨nx, rt, bk, ct⟩ σ H := h
theorem g_par33 {u v w : V} {Z : V → V → V → Prop} (h : Z u v w) : ∃ a b c, [u, v, w] = [a, b, c] ∧ Z a b c := ⟨u, v, w, rfl, h⟩
theorem g_star {K : PySem.W.Frag} {te : TE} {t : TA} {σ : L2.St} {H : Hp} {QA : List V → Hp → Prop} (h : te σ H fun x H1 => ∃ p xs, x = V.ref p ∧ (SqT K H1 p xs ∨ SqL K H1 p xs) ∧ t σ H1 fun ys H2 => QA (xs ++ ys) H2) : StX.tStar K te t σ H QA := h
end NL
namespace NQ
open PySem L2
/-! ### trees: what a value stands for, without addresses -/
inductive T where
  | non | bl (b : Bool) | int (i : Int) | str (s : Str)
  | lst (ts : List T) | tup (ts : List T) | ctup (ts : List T) | clst (ts : List T)
  | dic (ks : List Key) (ts : List T) | dit (ks : List (List Key)) (ts : List T)
  | ins (c : Str) (fs : List Str) (ts : List T)
  | gl (x : Str) | ty (n : String)
def T.kids : T → List T
  | .lst ts => ts | .tup ts => ts
  | .dic _ ts => ts | .dit _ ts => ts | .ins _ _ ts => ts
  | _ => []
def T.sv : T → V
  | .bl b => .bl b | .int i => .int i | .str s => .str s | .ty n => .ty n
  | _ => .non
/-- a flat scalar -/
def T.isS : T → Bool
  | .non => true | .bl _ => true | .int _ => true | .str s => PyData.strOk s | _ => false
def Cell (K : PySem.W.Frag) (H : Hp) (a : Addr) (t : T) (vs : List V) : Prop := match t with
  | .lst _ => H a = some (.lst vs)
  | .tup _ => H a = some (.tup vs)
  | .dic ks _ => ks.length = vs.length ∧ H a = some (.dK (ks.zip vs))
  | .dit ks _ => ks.length = vs.length ∧ H a = some (.dT (ks.zip vs))
  | .ins c fs _ => fs.length = vs.length ∧ ∃ dx, H a = some (.ins (He.ga K c) dx (fs.zip vs))
  | _ => False
def CellR (K : PySem.W.Frag) (H : Hp) (a : Addr) (t : T) (vs : List V) : Prop := match t with
  | .lst _ => Rd H a (.lst vs)
  | .tup _ => H a = some (.tup vs)
  | .dic ks _ => ks.length = vs.length ∧ Rd H a (.dK (ks.zip vs))
  | .dit ks _ => ks.length = vs.length ∧ Rd H a (.dT (ks.zip vs))
  | .ins c fs _ => fs.length = vs.length ∧ ∃ dx, H a = some (.ins (He.ga K c) dx (fs.zip vs))
  | _ => False
def Sc (K : PySem.W.Frag) (v : V) (t : T) : Prop := match t with
  | .non => v = .non
  | .bl b => v = .bl b
  | .int i => v = .int i
  | .str s => v = .str s ∧ PyData.strOk s = true
  | .gl x => v = .ref (He.ga K x)
  | .ty n => v = .ty n
  | .ctup ts => ∃ a, v = .ref a ∧ (∀ H : Hp, SqT K H a (ts.map T.sv)) ∧ ts.all T.isS = true
  | .clst ts => ∃ a, v = .ref a ∧ (∀ H : Hp, SqL K H a (ts.map T.sv)) ∧ ts.all T.isS = true
  | _ => False
/-! ### edges by predicates -/
/-- something lies at a, and no tuple -/
def NT (H : Hp) (a : Addr) : Prop := H a ≠ none ∧ ∀ xs, H a ≠ some (.tup xs)
def EdP (U : Addr → Prop) (H H' : Hp) : Prop := (∀ a o, ¬ U a → H a = some o → H' a = some o) ∧ (∀ a, H a ≠ none → H' a ≠ none) ∧ ∀ a, NT H a → NT H' a
abbrev noA : Addr → Prop := fun _ => False
def Xt (U U' : Addr → Prop) (H H' : Hp) : Prop := EdP U H H' ∧ ∀ a, U' a → U a ∨ H a = none
section
variable {U U' V' : Addr → Prop} {H H' H0 H1 H2 : Hp} {a p : Addr} {o : HO}
theorem NT.upd (ho : ∀ xs, o ≠ .tup xs := by exact fun _ z => nomatch z) : NT (upd H p o) p := by
  unfold NT
  rw [upd_same]
  exact ⟨(fun z => nomatch z), fun xs z => ho xs (Option.some.inj z)⟩
theorem NT.eq (h : NT H a) (e : H' a = H a) : NT H' a := by unfold NT; rw [e]; exact h
theorem NT.of {u : HO} (e : H a = some u) (ho : ∀ xs, u ≠ .tup xs := by exact fun _ z => nomatch z) : NT H a := by
  unfold NT
  rw [e]
  exact ⟨(fun z => nomatch z), fun xs z => ho xs (Option.some.inj z)⟩
theorem EdP.refl : EdP U H H := ⟨fun _ _ _ e => e, fun _ h => h, fun _ h => h⟩
theorem EdP.free (e : EdP U H H') (h : H' a = none) : H a = none := by
  by_cases z : H a = none
  · exact z
  · exact absurd h (e.2.1 a z)
theorem EdP.tr (h1 : EdP U H0 H1) (h2 : EdP U' H1 H2) (hv : ∀ a, U' a → U a ∨ H0 a = none) : EdP U H0 H2 :=
  ⟨fun a o n e => h2.1 a o (fun z => (hv a z).elim n (fun q => by rw [q] at e; cases e)) (h1.1 a o n e), fun a h => h2.2.1 a (h1.2.1 a h), fun a h => h2.2.2 a (h1.2.2 a h)⟩
theorem EdP.weak (h : EdP U H H') (hv : ∀ a, U a → U' a) : EdP U' H H' := ⟨fun a o n e => h.1 a o (fun z => n (hv a z)) e, h.2⟩
theorem EdP.new (hp : H p = none) : EdP noA H (upd H p o) := ⟨fun a u _ e => by rw [upd_ne (ne_of_none e hp)]; exact e, fun a h => by
  rw [upd_ne (fun z : a = p => h (by rw [z]; exact hp))]; exact h, fun a h => by
  unfold NT
  rw [upd_ne (fun z : a = p => h.1 (by rw [z]; exact hp))]; exact h⟩
theorem EdP.put (ho : ∀ xs, o ≠ .tup xs := by exact fun _ z => nomatch z) : EdP (fun a => a = p) H (upd H p o) := ⟨fun a u n e => by rw [upd_ne n]; exact e, fun a h => by
  by_cases z : a = p
  · rw [z, upd_same]; exact fun z => nomatch z
  · rw [upd_ne z]; exact h, fun a h => by
  unfold NT
  by_cases z : a = p
  · rw [z, upd_same]; exact ⟨(fun z => nomatch z), fun xs z => ho xs (Option.some.inj z)⟩
  · rw [upd_ne z]; exact h⟩
theorem EdP.ed {L : List Addr} (h : NL.Ed L H H') (hn : ∀ a ∈ L, NT H a → NT H' a) : EdP (fun a => a ∈ L) H H' := ⟨fun a o n e => h.1 a o n e, h.2, fun a k => by
  by_cases z : a ∈ L
  · exact hn a z k
  · cases q : H a with
    | none => exact absurd q k.1
    | some o =>
      unfold NT
      rw [h.1 a o z q, ← q]
      exact k⟩
theorem Xt.refl : Xt U U H H := ⟨.refl, fun _ h => .inl h⟩
theorem Xt.tr (h1 : Xt U U' H0 H1) (h2 : Xt U' V' H1 H2) : Xt U V' H0 H2 :=
  ⟨h1.1.tr h2.1 h1.2, fun a z => (h2.2 a z).elim (fun q => h1.2 a q) fun q => .inr (h1.1.free q)⟩
theorem Xt.ed0 (h1 : Xt U U' H0 H1) (h2 : EdP noA H1 H2) : Xt U U' H0 H2 := ⟨h1.1.tr h2 fun _ z => z.elim, h1.2⟩
end
/-! ### frozen data: nothing of it lies in G -/
mutual
inductive Df (K : PySem.W.Frag) (G : Addr → Prop) (H : Hp) : V → T → Prop
  | sc {v : V} {t : T} : Sc K v t → Df K G H v t
  | nd {a : Addr} {t : T} {vs : List V} : ¬ G a → CellR K H a t vs → DfL K G H vs t.kids → Df K G H (.ref a) t
inductive DfL (K : PySem.W.Frag) (G : Addr → Prop) (H : Hp) : List V → List T → Prop
  | nil : DfL K G H [] []
  | cons {v : V} {t : T} {vs : List V} {ts : List T} : Df K G H v t → DfL K G H vs ts → DfL K G H (v :: vs) (t :: ts)
end
theorem rd_alive {H : Hp} {a : Addr} {u : HO} (h : Rd H a u) : H a ≠ none := by
  rcases h with h | ⟨_, h⟩ <;> rw [h] <;> exact fun z => nomatch z
theorem rd_keep {H H' : Hp} {a : Addr} {u : HO} (k : ∀ o, H a = some o → H' a = some o) (h : Rd H a u) : Rd H' a u := by
  rcases h with h | ⟨o, h⟩
  · exact .inl (k _ h)
  · exact .inr ⟨o, k _ h⟩
theorem CellR.alive {K : PySem.W.Frag} {H : Hp} {a : Addr} {t : T} {vs : List V} (h : CellR K H a t vs) : H a ≠ none := by
  unfold CellR at h
  split at h
  · exact rd_alive h
  · rw [h]; exact fun z => nomatch z
  · exact rd_alive h.2
  · exact rd_alive h.2
  · obtain ⟨_, _, h⟩ := h; rw [h]; exact fun z => nomatch z
  · exact h.elim
theorem Cell.r {K : PySem.W.Frag} {H : Hp} {a : Addr} {t : T} {vs : List V} (h : Cell K H a t vs) : CellR K H a t vs := by
  cases t <;> first
    | exact Or.inl h
    | exact ⟨h.1, Or.inl h.2⟩
    | exact h
theorem CellR.keep {K : PySem.W.Frag} {H H' : Hp} {a : Addr} {t : T} {vs : List V} (k : ∀ o, H a = some o → H' a = some o) (h : CellR K H a t vs) : CellR K H' a t vs := by
  unfold CellR at h ⊢
  split at h
  · exact rd_keep k h
  · exact k _ h
  · exact ⟨h.1, rd_keep k h.2⟩
  · exact ⟨h.1, rd_keep k h.2⟩
  · obtain ⟨h0, dx, h⟩ := h; exact ⟨h0, dx, k _ h⟩
  · exact h.elim
theorem Cell.keep {K : PySem.W.Frag} {H H' : Hp} {a : Addr} {t : T} {vs : List V} (k : ∀ o, H a = some o → H' a = some o) (h : Cell K H a t vs) : Cell K H' a t vs := by
  unfold Cell at h ⊢
  split at h
  · exact k _ h
  · exact k _ h
  · exact ⟨h.1, k _ h.2⟩
  · exact ⟨h.1, k _ h.2⟩
  · obtain ⟨h0, dx, h⟩ := h; exact ⟨h0, dx, k _ h⟩
  · exact h.elim
section
variable {K : PySem.W.Frag} {G G' U : Addr → Prop} {H H' : Hp}
mutual
theorem Df.step (e : EdP U H H') (hu : ∀ a, U a → G a ∨ H a = none) (hg : ∀ a, G' a → G a ∨ H a = none) : ∀ {v : V} {t : T}, Df K G H v t → Df K G' H' v t
  | _, _, .sc h => .sc h
  | _, _, .nd n c r => .nd (fun z => (hg _ z).elim n fun q => c.alive q) (c.keep fun o q => e.1 _ _ (fun z => (hu _ z).elim n fun w => c.alive w) q) (DfL.step e hu hg r)
theorem DfL.step (e : EdP U H H') (hu : ∀ a, U a → G a ∨ H a = none) (hg : ∀ a, G' a → G a ∨ H a = none) : ∀ {vs : List V} {ts : List T}, DfL K G H vs ts → DfL K G' H' vs ts
  | _, _, .nil => .nil
  | _, _, .cons h r => .cons (Df.step e hu hg h) (DfL.step e hu hg r)
end
theorem Df.weak {v : V} {t : T} (hg : ∀ a, G' a → G a) (h : Df K G H v t) : Df K G' H v t := h.step (U := noA) .refl (fun _ z => z.elim) fun a z => .inl (hg a z)
theorem DfL.weak {v : List V} {t : List T} (hg : ∀ a, G' a → G a) (h : DfL K G H v t) : DfL K G' H v t := h.step (U := noA) .refl (fun _ z => z.elim) fun a z => .inl (hg a z)
theorem Df.ed0 {v : V} {t : T} (e : EdP noA H H') (h : Df K G H v t) : Df K G H' v t := h.step e (fun _ z => z.elim) fun a z => .inl z
theorem DfL.ed0 {v : List V} {t : List T} (e : EdP noA H H') (h : DfL K G H v t) : DfL K G H' v t := h.step e (fun _ z => z.elim) fun a z => .inl z
theorem DfL.length : ∀ {vs : List V} {ts : List T}, DfL K G H vs ts → vs.length = ts.length
  | _, _, .nil => rfl
  | _, _, .cons _ r => by rw [List.length_cons, List.length_cons, DfL.length r]
theorem DfL.at : ∀ {vs : List V} {ts : List T} {i : Nat} {t : T}, DfL K G H vs ts → ts[i]? = some t → ∃ v, vs[i]? = some v ∧ Df K G H v t
  | _, _, _, _, .nil, e => by simp at e
  | _, _, 0, _, .cons h _, e => by simp at e; subst e; exact ⟨_, rfl, h⟩
  | _, _, i + 1, _, .cons _ r, e => by
    obtain ⟨v, h1, h2⟩ := DfL.at r (i := i) (by simpa using e)
    exact ⟨v, by simpa using h1, h2⟩
theorem DfL.at' : ∀ {vs : List V} {ts : List T} {i : Nat} {v : V}, DfL K G H vs ts → vs[i]? = some v → ∃ t, ts[i]? = some t ∧ Df K G H v t
  | _, _, _, _, .nil, e => by simp at e
  | _, _, 0, _, .cons h _, e => by simp at e; subst e; exact ⟨_, rfl, h⟩
  | _, _, i + 1, _, .cons _ r, e => by
    obtain ⟨v, h1, h2⟩ := DfL.at' r (i := i) (by simpa using e)
    exact ⟨v, by simpa using h1, h2⟩
theorem DfL.app : ∀ {vs ws : List V} {ts us : List T}, DfL K G H vs ts → DfL K G H ws us → DfL K G H (vs ++ ws) (ts ++ us)
  | _, _, _, _, .nil, h => h
  | _, _, _, _, .cons h r, q => .cons h (DfL.app r q)
theorem DfL.drop : ∀ {vs : List V} {ts : List T} (n : Nat), DfL K G H vs ts → DfL K G H (vs.drop n) (ts.drop n)
  | _, _, 0, h => h
  | _, _, _ + 1, .nil => .nil
  | _, _, n + 1, .cons _ r => DfL.drop n r
theorem DfL.take : ∀ {vs : List V} {ts : List T} (n : Nat), DfL K G H vs ts → DfL K G H (vs.take n) (ts.take n)
  | _, _, 0, _ => .nil
  | _, _, _ + 1, .nil => .nil
  | _, _, n + 1, .cons h r => .cons h (DfL.take n r)
theorem DfL.set {v : V} {t : T} (h : Df K G H v t) : ∀ {vs : List V} {ts : List T} (n : Nat), DfL K G H vs ts → DfL K G H (vs.set n v) (ts.set n t)
  | _, _, _, .nil => .nil
  | _, _, 0, .cons _ r => .cons h r
  | _, _, n + 1, .cons q r => .cons q (DfL.set h n r)
theorem DfL.sv : ∀ {ts : List T}, ts.all T.isS = true → DfL K G H (ts.map T.sv) ts
  | [], _ => .nil
  | t :: r, h => by
    rw [List.all_cons, Bool.and_eq_true] at h
    refine .cons (.sc ?_) (DfL.sv h.2)
    cases t <;> first
      | rfl
      | exact ⟨rfl, h.1⟩
      | exact absurd h.1 Bool.false_ne_true
theorem DfL.svs : ∀ {ts : List T} {vs : List V}, DfL K G H vs ts → ts.all T.isS = true → vs = ts.map T.sv
  | [], _, .nil, _ => rfl
  | t :: r, _, .cons h q, z => by
    rw [List.all_cons, Bool.and_eq_true] at z
    rw [DfL.svs q z.2]
    cases h with
    | sc h =>
      cases t <;> first
        | (cases h; rfl)
        | (obtain ⟨rfl, _⟩ := h; rfl)
        | exact absurd z.1 Bool.false_ne_true
    | nd n c _ =>
      cases t <;> first
        | exact absurd z.1 Bool.false_ne_true
        | exact c.elim
end
/-! ### owned trees: all their own places are told, no two alike -/
inductive Sh where
  | fz | all (s : Sh) | flds (d : List (Str × Sh)) | row (ss : List Sh) | opt (s : Sh)
  /-- lent: it is read only, and lies apart from what is one's own -/
  | vw
  /-- a caught exception at a, its field f in d -/
  | xc (a d : Addr) (c f : Str)
def Sh.pln : Sh → Bool
  | .vw => false
  | .xc .. => false
  | _ => true
def Sh.nxc : Sh → Bool
  | .xc .. => false
  | _ => true
def Sh.kids (s : Sh) (t : T) : Option (List Sh) := match s, t with
  | .all s, .lst ts => some (ts.map fun _ => s)
  | .all s, .dic _ ts => some (ts.map fun _ => s)
  | .all s, .dit _ ts => some (ts.map fun _ => s)
  | .flds d, .ins _ fs _ => some (fs.map fun f => (d.lookup f).getD .fz)
  | .row ss, .lst _ => some ss
  | _, _ => none
mutual
inductive Ow (K : PySem.W.Frag) (G : Addr → Prop) (H : Hp) : Sh → List Addr → V → T → Prop
  | fz {v : V} {t : T} : Df K G H v t → Ow K G H .fz [] v t
  | nd {s : Sh} {a : Addr} {F : List Addr} {t : T} {vs : List V} {ss : List Sh} : Cell K H a t vs → s.kids t = some ss → OwL K G H ss F vs t.kids → Ow K G H s (a :: F) (.ref a) t
  | optN {s : Sh} : Ow K G H (.opt s) [] .non .non
  | optS {s : Sh} {F : List Addr} {v : V} {t : T} : Ow K G H s F v t → Ow K G H (.opt s) F v t
inductive OwL (K : PySem.W.Frag) (G : Addr → Prop) (H : Hp) : List Sh → List Addr → List V → List T → Prop
  | nil : OwL K G H [] [] [] []
  | cons {s : Sh} {ss : List Sh} {F F' : List Addr} {v : V} {t : T} {vs : List V} {ts : List T} : Ow K G H s F v t → OwL K G H ss F' vs ts → OwL K G H (s :: ss) (F ++ F') (v :: vs) (t :: ts)
end
section
variable {K : PySem.W.Frag} {G G' U : Addr → Prop} {H H' : Hp}
mutual
theorem Ow.step (e : EdP U H H') (hu : ∀ a, U a → G a ∨ H a = none) (hg : ∀ a, G' a → G a ∨ H a = none) : ∀ {s : Sh} {F : List Addr} {v : V} {t : T}, (∀ a ∈ F, ¬ U a) → Ow K G H s F v t → Ow K G' H' s F v t
  | _, _, _, _, _, .fz h => .fz (h.step e hu hg)
  | _, _, _, _, n, .nd c k r => .nd (c.keep fun o q => e.1 _ _ (n _ (List.mem_cons_self ..)) q) k (OwL.step e hu hg (fun a z => n a (List.mem_cons_of_mem _ z)) r)
  | _, _, _, _, _, .optN => .optN
  | _, _, _, _, n, .optS h => .optS (Ow.step e hu hg n h)
theorem OwL.step (e : EdP U H H') (hu : ∀ a, U a → G a ∨ H a = none) (hg : ∀ a, G' a → G a ∨ H a = none) : ∀ {ss : List Sh} {F : List Addr} {vs : List V} {ts : List T}, (∀ a ∈ F, ¬ U a) → OwL K G H ss F vs ts → OwL K G' H' ss F vs ts
  | _, _, _, _, _, .nil => .nil
  | _, _, _, _, n, .cons h r => .cons (Ow.step e hu hg (fun a z => n a (List.mem_append_left _ z)) h) (OwL.step e hu hg (fun a z => n a (List.mem_append_right _ z)) r)
end
mutual
theorem Ow.alive : ∀ {s : Sh} {F : List Addr} {v : V} {t : T}, Ow K G H s F v t → ∀ a ∈ F, H a ≠ none
  | _, _, _, _, .fz _, _, z => absurd z List.not_mem_nil
  | _, _, _, _, .nd c _ r, b, z => (List.mem_cons.mp z).elim (fun q => by rw [q]; exact c.r.alive) fun q => OwL.alive r b q
  | _, _, _, _, .optN, _, z => absurd z List.not_mem_nil
  | _, _, _, _, .optS h, a, z => Ow.alive h a z
theorem OwL.alive : ∀ {ss : List Sh} {F : List Addr} {vs : List V} {ts : List T}, OwL K G H ss F vs ts → ∀ a ∈ F, H a ≠ none
  | _, _, _, _, .nil, _, z => absurd z List.not_mem_nil
  | _, _, _, _, .cons h r, a, z => (List.mem_append.mp z).elim (fun q => Ow.alive h a q) fun q => OwL.alive r a q
end
theorem Cell.nt {a : Addr} {s : Sh} {t : T} {vs : List V} {ss : List Sh} (h : Cell K H a t vs) (k : s.kids t = some ss) : NT H a := by
  refine ⟨h.r.alive, fun xs z => ?_⟩
  unfold Sh.kids at k
  split at k
  · have h : H a = _ := h
    rw [z] at h; cases h
  · have h : H a = _ := h.2
    rw [z] at h; cases h
  · have h : H a = _ := h.2
    rw [z] at h; cases h
  · obtain ⟨_, dx, h⟩ := h
    rw [z] at h; cases h
  · have h : H a = _ := h
    rw [z] at h; cases h
  · cases k
mutual
theorem Ow.nt : ∀ {s : Sh} {F : List Addr} {v : V} {t : T}, Ow K G H s F v t → ∀ a ∈ F, NT H a
  | _, _, _, _, .fz _, _, z => absurd z List.not_mem_nil
  | _, _, _, _, .nd c k r, b, z => (List.mem_cons.mp z).elim (fun q => by rw [q]; exact c.nt k) fun q => OwL.nt r b q
  | _, _, _, _, .optN, _, z => absurd z List.not_mem_nil
  | _, _, _, _, .optS h, a, z => Ow.nt h a z
theorem OwL.nt : ∀ {ss : List Sh} {F : List Addr} {vs : List V} {ts : List T}, OwL K G H ss F vs ts → ∀ a ∈ F, NT H a
  | _, _, _, _, .nil, _, z => absurd z List.not_mem_nil
  | _, _, _, _, .cons h r, a, z => (List.mem_append.mp z).elim (fun q => Ow.nt h a q) fun q => OwL.nt r a q
end
mutual
theorem Ow.freeze : ∀ {s : Sh} {F : List Addr} {v : V} {t : T}, (∀ a, G' a → G a ∧ a ∉ F) → Ow K G H s F v t → Df K G' H v t
  | _, _, _, _, n, .fz h => h.weak fun a z => (n a z).1
  | _, _, _, _, n, .nd c _ r => .nd (fun z => (n _ z).2 (List.mem_cons_self ..)) c.r (OwL.freeze (fun a z => ⟨(n a z).1, fun q => (n a z).2 (List.mem_cons_of_mem _ q)⟩) r)
  | _, _, _, _, _, .optN => .sc rfl
  | _, _, _, _, n, .optS h => Ow.freeze n h
theorem OwL.freeze : ∀ {ss : List Sh} {F : List Addr} {vs : List V} {ts : List T}, (∀ a, G' a → G a ∧ a ∉ F) → OwL K G H ss F vs ts → DfL K G' H vs ts
  | _, _, _, _, _, .nil => .nil
  | _, _, _, _, n, .cons h r => .cons (Ow.freeze (fun a z => ⟨(n a z).1, fun q => (n a z).2 (List.mem_append_left _ q)⟩) h) (OwL.freeze (fun a z => ⟨(n a z).1, fun q => (n a z).2 (List.mem_append_right _ q)⟩) r)
end
theorem Ow.weak {s : Sh} {F : List Addr} {v : V} {t : T} (hg : ∀ a, G' a → G a) (h : Ow K G H s F v t) : Ow K G' H s F v t := h.step (U := noA) .refl (fun _ z => z.elim) (fun a z => .inl (hg a z)) fun _ _ z => z.elim
theorem Ow.ed0 {s : Sh} {F : List Addr} {v : V} {t : T} (e : EdP noA H H') (h : Ow K G H s F v t) : Ow K G H' s F v t := h.step e (fun _ z => z.elim) (fun a z => .inl z) fun _ _ z => z.elim
theorem Ow.df {F : List Addr} {v : V} {t : T} (h : Ow K G H .fz F v t) : Df K G H v t ∧ F = [] := by
  cases h with
  | fz h => exact ⟨h, rfl⟩
  | nd c k r => simp [Sh.kids] at k
theorem OwL.df : ∀ {ts : List T} {vs : List V} {F : List Addr}, OwL K G H (ts.map fun _ => .fz) F vs ts → DfL K G H vs ts ∧ F = []
  | [], _, _, .nil => ⟨.nil, rfl⟩
  | t :: r, _, _, .cons h q => by
    obtain ⟨h1, rfl⟩ := h.df
    obtain ⟨h2, rfl⟩ := OwL.df q
    exact ⟨.cons h1 h2, rfl⟩
end
/-! ### what a value stands for, wherever it lies -/
mutual
inductive Rp (K : PySem.W.Frag) (H : Hp) : V → T → Prop
  | sc {v : V} {t : T} : Sc K v t → Rp K H v t
  | nd {a : Addr} {t : T} {vs : List V} : CellR K H a t vs → RpL K H vs t.kids → Rp K H (.ref a) t
inductive RpL (K : PySem.W.Frag) (H : Hp) : List V → List T → Prop
  | nil : RpL K H [] []
  | cons {v : V} {t : T} {vs : List V} {ts : List T} : Rp K H v t → RpL K H vs ts → RpL K H (v :: vs) (t :: ts)
end
section
variable {K : PySem.W.Frag} {G : Addr → Prop} {H H' : Hp}
mutual
theorem Df.rp : ∀ {v : V} {t : T}, Df K G H v t → Rp K H v t
  | _, _, .sc h => .sc h
  | _, _, .nd _ c r => .nd c (DfL.rp r)
theorem DfL.rp : ∀ {vs : List V} {ts : List T}, DfL K G H vs ts → RpL K H vs ts
  | _, _, .nil => .nil
  | _, _, .cons h r => .cons (Df.rp h) (DfL.rp r)
end
mutual
theorem Ow.rp : ∀ {s : Sh} {F : List Addr} {v : V} {t : T}, Ow K G H s F v t → Rp K H v t
  | _, _, _, _, .fz h => h.rp
  | _, _, _, _, .nd c _ r => .nd c.r (OwL.rp r)
  | _, _, _, _, .optN => .sc rfl
  | _, _, _, _, .optS h => Ow.rp h
theorem OwL.rp : ∀ {ss : List Sh} {F : List Addr} {vs : List V} {ts : List T}, OwL K G H ss F vs ts → RpL K H vs ts
  | _, _, _, _, .nil => .nil
  | _, _, _, _, .cons h r => .cons (Ow.rp h) (OwL.rp r)
end
theorem RpL.length : ∀ {vs : List V} {ts : List T}, RpL K H vs ts → vs.length = ts.length
  | _, _, .nil => rfl
  | _, _, .cons _ r => by rw [List.length_cons, List.length_cons, RpL.length r]
theorem Rp.isS {v : V} {t : T} (h : Rp K H v t) (z : t.isS = true) : v = t.sv := by
  cases h with
  | sc h =>
    cases t <;> first
      | (cases h; rfl)
      | (obtain ⟨rfl, _⟩ := h; rfl)
      | exact absurd z Bool.false_ne_true
  | nd c _ =>
    cases t <;> first
      | exact absurd z Bool.false_ne_true
      | exact c.elim
theorem Df.isS {v : V} {t : T} (h : Rp K H v t) (z : t.isS = true) : Df K G H v t := by
  cases h with
  | sc h => exact .sc h
  | nd c _ =>
    cases t <;> first
      | exact absurd z Bool.false_ne_true
      | exact c.elim
theorem RpL.svs : ∀ {ts : List T} {vs : List V}, RpL K H vs ts → ts.all T.isS = true → vs = ts.map T.sv
  | [], _, .nil, _ => rfl
  | t :: r, _, .cons h q, z => by
    rw [List.all_cons, Bool.and_eq_true] at z
    rw [RpL.svs q z.2, h.isS z.1]
    rfl
end
/-! ### a view: it may be read; what lies in it is frozen -/
def Vw (K : PySem.W.Frag) (G : Addr → Prop) (H : Hp) (v : V) (t : T) : Prop := Sc K v t ∨ ∃ a vs, v = .ref a ∧ CellR K H a t vs ∧ DfL K G H vs t.kids
theorem Vw.rp {K : PySem.W.Frag} {G : Addr → Prop} {H : Hp} {v : V} {t : T} (h : Vw K G H v t) : Rp K H v t := by
  rcases h with h | ⟨a, vs, rfl, c, r⟩
  · exact .sc h
  · exact .nd c r.rp
theorem Df.vw {K : PySem.W.Frag} {G : Addr → Prop} {H : Hp} {v : V} {t : T} (h : Df K G H v t) : Vw K G H v t := by
  cases h with
  | sc h => exact .inl h
  | nd n c r => exact .inr ⟨_, _, rfl, c, r⟩
/-- shapes whose parts are all frozen -/
def Sh.flat : Sh → Bool
  | .fz => true
  | .all .fz => true
  | .opt (.all .fz) => true
  | .flds d => d.all fun p => match p.2 with | .fz => true | _ => false
  | .row ss => ss.all fun s => match s with | .fz => true | _ => false
  | _ => false
theorem OwL.flat {K : PySem.W.Frag} {G : Addr → Prop} {H : Hp} : ∀ {ss : List Sh} {ts : List T} {vs : List V} {F : List Addr}, (∀ s ∈ ss, s = .fz) → OwL K G H ss F vs ts → DfL K G H vs ts
  | _, _, _, _, _, .nil => .nil
  | _, _, _, _, n, .cons h q => by
    have e := n _ (List.mem_cons_self ..)
    subst e
    exact .cons h.df.1 (OwL.flat (fun s z => n s (List.mem_cons_of_mem _ z)) q)
theorem lookup_mem {α : Type} {d : List (Str × α)} {f : Str} {s : α} (h : d.lookup f = some s) : ∃ p ∈ d, p.2 = s := by
  induction d with
  | nil => simp at h
  | cons p r ih =>
    obtain ⟨a, b⟩ := p
    rw [List.lookup_cons] at h
    split at h
    · cases h; exact ⟨_, List.mem_cons_self .., rfl⟩
    · obtain ⟨q, h1, h2⟩ := ih h
      exact ⟨q, List.mem_cons_of_mem _ h1, h2⟩
theorem Ow.vw {K : PySem.W.Frag} {G : Addr → Prop} {H : Hp} : ∀ {s : Sh} {F : List Addr} {v : V} {t : T}, s.flat = true → Ow K G H s F v t → Vw K G H v t
  | _, _, _, _, _, .fz h => h.vw
  | s, _, _, t, f, .nd c k r => by
    refine .inr ⟨_, _, rfl, c.r, r.flat fun s' hs' => ?_⟩
    unfold Sh.kids at k
    unfold Sh.flat at f
    split at k <;> cases k
    · simp only [List.mem_map] at hs'
      obtain ⟨_, _, rfl⟩ := hs'
      split at f <;> first | rfl | simp_all
    · simp only [List.mem_map] at hs'
      obtain ⟨_, _, rfl⟩ := hs'
      split at f <;> first | rfl | simp_all
    · simp only [List.mem_map] at hs'
      obtain ⟨_, _, rfl⟩ := hs'
      split at f <;> first | rfl | simp_all
    · simp only [List.mem_map] at hs'
      obtain ⟨g, _, rfl⟩ := hs'
      rename_i d _ _ _ _
      simp only [List.all_eq_true] at f
      cases q : d.lookup g with
      | none => rfl
      | some s' =>
        obtain ⟨p, h1, h2⟩ := lookup_mem q
        have := f p h1
        rw [h2] at this
        show s' = .fz
        cases s' <;> simp_all
    · simp only [List.all_eq_true] at f
      have := f s' hs'
      cases s' <;> simp_all
  | _, _, _, _, _, .optN => .inl rfl
  | .opt s, _, _, _, f, .optS h => by
    refine Ow.vw ?_ h
    unfold Sh.flat at f
    split at f <;> first | rfl | simp_all [Sh.flat]
end NQ
namespace NQ
open PySem L2
/-! ### slots as trees; outcomes -/
structure Xn where
  cls : Str
  fld : Str
  val : T
abbrev Dl := List (Option T)
abbrev Rs := Option (Except Xn T × Dl)
def dAt : Dl → Nat → Option T
  | [], _ => none
  | x :: _, 0 => x
  | _ :: r, i + 1 => dAt r i
theorem dAt_set_eq : ∀ {δ : Dl} {i : Nat} {t : Option T} {u : T}, dAt (δ.set i t) i = some u → t = some u
  | [], _, _, _, h => by cases h
  | _ :: _, 0, _, _, h => h
  | _ :: r, i + 1, _, _, h => dAt_set_eq (δ := r) h
theorem dAt_set_ne : ∀ {δ : Dl} {i j : Nat} {t : Option T}, j ≠ i → dAt (δ.set i t) j = dAt δ j
  | [], _, _, _, _ => rfl
  | _ :: _, 0, 0, _, h => absurd rfl h
  | _ :: _, 0, _ + 1, _, _ => rfl
  | _ :: _, _ + 1, 0, _, _ => rfl
  | _ :: r, i + 1, j + 1, _, h => dAt_set_ne (δ := r) fun z => h (by rw [z])
theorem dAt_lt : ∀ {δ : Dl} {i : Nat} {u : T}, dAt δ i = some u → i < δ.length
  | [], _, _, h => by cases h
  | _ :: _, 0, _, _ => Nat.succ_pos _
  | _ :: r, i + 1, _, h => Nat.succ_lt_succ (dAt_lt (δ := r) h)
theorem dAt_set_self : ∀ {δ : Dl} {i : Nat} {t : T}, i < δ.length → dAt (δ.set i (some t)) i = some t
  | [], _, _, h => absurd h (Nat.not_lt_zero _)
  | _ :: _, 0, _, _ => rfl
  | _ :: r, i + 1, _, h => dAt_set_self (δ := r) (Nat.lt_of_succ_lt_succ h)
/-- one's own; with what is held meanwhile; with what others may change -/
def Om (Fm : Nat → List Addr) : Addr → Prop := fun a => ∃ i, a ∈ Fm i
def Gm (X : List Addr) (Fm : Nat → List Addr) : Addr → Prop := fun a => a ∈ X ∨ Om Fm a
def Gw (X : List Addr) (Fm : Nat → List Addr) (W : Addr → Prop) : Addr → Prop := fun a => Gm X Fm a ∨ W a
/-- what a slot of the shape s holds: of one's own, frozen, or lent -/
def Xs (K : PySem.W.Frag) (G : Addr → Prop) (H : Hp) (s : Sh) (F : List Addr) (v : V) (t : T) : Prop := F = [] ∧ ∃ a d c f u, s = .xc a d c f ∧ v = .ref a ∧ ¬ G d ∧ H d = some (.xd [(f, u)]) ∧ Df K G H u t
def Sr (K : PySem.W.Frag) (X : List Addr) (Fm : Nat → List Addr) (W : Addr → Prop) (H : Hp) (s : Sh) (F : List Addr) (v : V) (t : T) : Prop := ((s = .vw ∧ F = [] ∧ Df K (Gm X Fm) H v t) ∨ Xs K (Gw X Fm W) H s F v t) ∨ Ow K (Gw X Fm W) H s F v t
structure Fr (K : PySem.W.Frag) (sh : Nat → Sh) (W : Addr → Prop) (X : List Addr) (Fm : Nat → List Addr) (H : Hp) (σ : L2.St) (δ : Dl) : Prop where
  rel : ∀ i t, dAt δ i = some t → ∃ v, σ[i]? = some (some v) ∧ Sr K X Fm W H (sh i) (Fm i) v t
  un : ∀ i, dAt δ i = none → Fm i = []
  nd : ∀ i, (Fm i).Nodup
  dj : ∀ i j a, i ≠ j → a ∈ Fm i → a ∉ Fm j
  dw : ∀ i a, a ∈ Fm i → ¬ W a
  wl : ∀ a, W a → NT H a
  len : δ.length ≤ σ.length
  xn : X.Nodup
  xd : ∀ i a, a ∈ X → a ∉ Fm i
  xw : ∀ a ∈ X, ¬ W a
  xl : ∀ a ∈ X, NT H a
section
variable {K : PySem.W.Frag} {sh : Nat → Sh} {W W' U : Addr → Prop} {X X' : List Addr} {Fm Fm' : Nat → List Addr} {H H' : Hp} {σ : L2.St} {δ : Dl} {i : Nat} {v : V} {t : T} {s : Sh} {F : List Addr}
theorem Sr.step (e : EdP U H H') (hu : ∀ a, U a → Gm X Fm a ∨ H a = none) (hg : ∀ a, Gw X' Fm' W' a → Gw X Fm W a ∨ H a = none) (hm : ∀ a, Gm X' Fm' a → Gm X Fm a ∨ H a = none) (hf : ∀ a ∈ F, ¬ U a) (h : Sr K X Fm W H s F v t) : Sr K X' Fm' W' H' s F v t := by
  rcases h with (⟨h1, h2, h3⟩ | ⟨h1, a, d, c, f, u, h2, h3, h4, h5, h6⟩) | h
  · exact .inl (.inl ⟨h1, h2, h3.step e hu hm⟩)
  · have ne : ¬ H d = none := by rw [h5]; exact fun z => nomatch z
    refine .inl (.inr ⟨h1, a, d, c, f, u, h2, h3, fun z => (hg d z).elim h4 ne, e.1 _ _ (fun z => (hu d z).elim (fun w => h4 (.inl w)) ne) h5, h6.step e (fun a z => (hu a z).imp .inl id) hg⟩)
  · exact .inr (h.step e (fun a z => (hu a z).imp .inl id) hg hf)
theorem Sr.ed0 (e : EdP noA H H') (h : Sr K X Fm W H s F v t) : Sr K X Fm W H' s F v t := h.step e (fun _ z => z.elim) (fun _ z => .inl z) (fun _ z => .inl z) fun _ _ z => z.elim
theorem Sr.weak (hg : ∀ a, Gw X' Fm' W' a → Gw X Fm W a) (hm : ∀ a, Gm X' Fm' a → Gm X Fm a) (h : Sr K X Fm W H s F v t) : Sr K X' Fm' W' H s F v t := h.step (U := noA) .refl (fun _ z => z.elim) (fun a z => .inl (hg a z)) (fun a z => .inl (hm a z)) fun _ _ z => z.elim
theorem Sr.alive (h : Sr K X Fm W H s F v t) : ∀ a ∈ F, H a ≠ none := by
  rcases h with (⟨_, h2, _⟩ | ⟨h2, _⟩) | h
  · rw [h2]; exact fun _ z => absurd z List.not_mem_nil
  · rw [h2]; exact fun _ z => absurd z List.not_mem_nil
  · exact h.alive
theorem Sr.nt (h : Sr K X Fm W H s F v t) : ∀ a ∈ F, NT H a := by
  rcases h with (⟨_, h2, _⟩ | ⟨h2, _⟩) | h
  · rw [h2]; exact fun _ z => absurd z List.not_mem_nil
  · rw [h2]; exact fun _ z => absurd z List.not_mem_nil
  · exact h.nt
theorem Sr.rp (h : Sr K X Fm W H s F v t) (n : s.nxc = true) : Rp K H v t := by
  rcases h with (⟨_, _, h⟩ | ⟨_, _, _, _, _, _, h, _⟩) | h
  · exact h.rp
  · rw [h] at n; cases n
  · exact h.rp
theorem Sr.fz (h : Sr K X Fm W H .fz F v t) : Df K (Gw X Fm W) H v t ∧ F = [] := by
  rcases h with (⟨h, _⟩ | ⟨_, _, _, _, _, _, h, _⟩) | h
  · cases h
  · cases h
  · exact h.df
theorem Sr.vw (h : Sr K X Fm W H .vw F v t) : Df K (Gm X Fm) H v t ∧ F = [] := by
  rcases h with (⟨_, h1, h2⟩ | ⟨_, _, _, _, _, _, h, _⟩) | h
  · exact ⟨h2, h1⟩
  · cases h
  · cases h with
    | nd c k r => simp [Sh.kids] at k
theorem Sr.xc {a d : Addr} {c f : Str} (h : Sr K X Fm W H (.xc a d c f) F v t) : F = [] ∧ v = .ref a ∧ ∃ u, H d = some (.xd [(f, u)]) ∧ Df K (Gw X Fm W) H u t := by
  rcases h with (⟨h, _⟩ | ⟨h0, _, _, _, _, u, h, h1, _, h2, h3⟩) | h
  · cases h
  · cases h; exact ⟨h0, h1, u, h2, h3⟩
  · cases h with
    | nd c k r => simp [Sh.kids] at k
theorem Sr.own (h : Sr K X Fm W H s F v t) (n : s.pln = true) : Ow K (Gw X Fm W) H s F v t := by
  rcases h with (⟨h, _⟩ | ⟨_, _, _, _, _, _, h, _⟩) | h
  · rw [h] at n; cases n
  · rw [h] at n; cases n
  · exact h
theorem Fr.nto (f : Fr K sh W X Fm H σ δ) : ∀ a, Om Fm a → NT H a := fun a ⟨i, h⟩ => by
  cases e : dAt δ i with
  | none => rw [f.un i e] at h; exact absurd h List.not_mem_nil
  | some t =>
    obtain ⟨v, _, o⟩ := f.rel i t e
    exact o.nt a h
theorem Fr.ntm (f : Fr K sh W X Fm H σ δ) : ∀ a, Gm X Fm a → NT H a := fun a h => h.elim (f.xl a) (f.nto a)
theorem Fr.nt (f : Fr K sh W X Fm H σ δ) : ∀ a, Gw X Fm W a → NT H a := fun a h => h.elim (f.ntm a) (f.wl a)
theorem Fr.al (f : Fr K sh W X Fm H σ δ) : ∀ a, Gw X Fm W a → H a ≠ none := fun a h => (f.nt a h).1
theorem Fr.ed0 (f : Fr K sh W X Fm H σ δ) (e : EdP noA H H') : Fr K sh W X Fm H' σ δ :=
  ⟨fun i t h => by obtain ⟨v, h1, h2⟩ := f.rel i t h; exact ⟨v, h1, h2.ed0 e⟩, f.un, f.nd, f.dj, f.dw, fun a z => e.2.2 a (f.wl a z), f.len, f.xn, f.xd, f.xw, fun a z => e.2.2 a (f.xl a z)⟩
theorem Fr.fz0 (f : Fr K sh W X Fm H σ δ) (h : sh i = .fz) : Fm i = [] := by
  cases e : dAt δ i with
  | none => exact f.un i e
  | some t =>
    obtain ⟨v, _, o⟩ := f.rel i t e
    rw [h] at o
    exact o.fz.2
theorem Fr.var (f : Fr K sh W X Fm H σ δ) (h : sh i = .fz) (e : dAt δ i = some t) : ∃ v, σ[i]? = some (some v) ∧ Df K (Gw X Fm W) H v t := by
  obtain ⟨v, h1, h2⟩ := f.rel i t e
  rw [h] at h2
  exact ⟨v, h1, h2.fz.1⟩
theorem Fr.set (f : Fr K sh W X Fm H σ δ) (h : Fm i = []) (d : Sr K X Fm W H (sh i) [] v t) : Fr K sh W X Fm H (σ.set i (some v)) (δ.set i (some t)) := by
  have l := f.len
  refine ⟨fun j u e => ?_, fun j e => ?_, f.nd, f.dj, f.dw, f.wl, by simpa using l, f.xn, f.xd, f.xw, f.xl⟩
  · by_cases z : j = i
    · subst z
      have e2 := dAt_set_eq e
      cases e2
      have lt : j < δ.length := by simpa using dAt_lt e
      refine ⟨v, by rw [List.getElem?_set_self (by omega)], ?_⟩
      rw [h]
      exact d
    · rw [dAt_set_ne z] at e
      obtain ⟨w, h1, h2⟩ := f.rel j u e
      exact ⟨w, by rw [List.getElem?_set_ne (fun q => z q.symm)]; exact h1, h2⟩
  · by_cases z : j = i
    · subst z
      exact h
    · rw [dAt_set_ne z] at e
      exact f.un j e
/-- a slot is forgotten; what it held is held meanwhile -/
theorem Fr.del (f : Fr K sh W X Fm H σ δ) (i : Nat) (v : Option V) : Fr K sh W (Fm i ++ X) (fun j => if j = i then [] else Fm j) H (σ.set i v) (δ.set i none) := by
  have l := f.len
  have hm : ∀ j a, (a ∈ if j = i then [] else Fm j) → j ≠ i ∧ a ∈ Fm j := fun j a h => by
    by_cases z : j = i
    · rw [if_pos z] at h; exact absurd h List.not_mem_nil
    · rw [if_neg z] at h; exact ⟨z, h⟩
  have hg : ∀ a, Gm (Fm i ++ X) (fun j => if j = i then [] else Fm j) a → Gm X Fm a := fun a h => h.elim (fun q => (List.mem_append.mp q).elim (fun z => .inr ⟨i, z⟩) .inl) fun ⟨j, q⟩ => .inr ⟨j, (hm j a q).2⟩
  have hw : ∀ a, Gw (Fm i ++ X) (fun j => if j = i then [] else Fm j) W a → Gw X Fm W a := fun a h => h.imp (hg a) id
  refine ⟨fun j u e => ?_, fun j e => ?_, fun j => ?_, fun j k a n q q2 => f.dj j k a n (hm j a q).2 (hm k a q2).2, fun j a q => f.dw j a (hm j a q).2, f.wl, by simpa using l, ?_, fun j a q q2 => ?_, fun a q => ?_, fun a q => ?_⟩
  · by_cases z : j = i
    · subst z
      exact absurd (dAt_set_eq e) (by simp)
    · rw [dAt_set_ne z] at e
      obtain ⟨w, h1, h2⟩ := f.rel j u e
      refine ⟨w, by rw [List.getElem?_set_ne (fun q => z q.symm)]; exact h1, ?_⟩
      simp only [if_neg z]
      exact h2.weak hw hg
  · by_cases z : j = i
    · simp only [if_pos z]
    · rw [dAt_set_ne z] at e
      simp only [if_neg z]
      exact f.un j e
  · by_cases z : j = i
    · simp only [if_pos z]; exact List.nodup_nil
    · simp only [if_neg z]; exact f.nd j
  · exact List.nodup_append.mpr ⟨f.nd i, f.xn, fun a h1 b h2 e => f.xd i b h2 (by rw [← e]; exact h1)⟩
  · obtain ⟨z1, z2⟩ := hm j a q2
    rcases List.mem_append.mp q with q | q
    · exact f.dj i j a (fun z => z1 z.symm) q z2
    · exact f.xd j a q z2
  · rcases List.mem_append.mp q with q | q
    · exact f.dw i a q
    · exact f.xw a q
  · rcases List.mem_append.mp q with q | q
    · exact f.nto a ⟨i, q⟩
    · exact f.xl a q
/-- what is held meanwhile is let go -/
theorem Fr.let (f : Fr K sh W (F ++ X) Fm H σ δ) : Fr K sh W X Fm H σ δ := by
  have nx := List.nodup_append.mp f.xn
  have hg : ∀ a, Gm X Fm a → Gm (F ++ X) Fm a := fun a h => h.imp (fun q => List.mem_append_right _ q) id
  exact ⟨fun i t h => by obtain ⟨v, h1, h2⟩ := f.rel i t h; exact ⟨v, h1, h2.weak (fun a z => z.imp (hg a) id) hg⟩, f.un, f.nd, f.dj, f.dw, f.wl, f.len, nx.2.1, fun i a q => f.xd i a (List.mem_append_right _ q), fun a q => f.xw a (List.mem_append_right _ q), fun a q => f.xl a (List.mem_append_right _ q)⟩
/-- a new place is held -/
theorem Fr.hold {p : Addr} {H' : Hp} (f : Fr K sh W X Fm H σ δ) (hp : H p = none) (e : EdP noA H H') (hp' : NT H' p) : Fr K sh W ([p] ++ X) Fm H' σ δ := by
  have np : ∀ a, Gw X Fm W a → a ≠ p := fun a z w => f.al a z (by rw [w]; exact hp)
  have hg : ∀ a, Gm ([p] ++ X) Fm a → Gm X Fm a ∨ H a = none := fun a h => h.elim (fun q => (List.mem_append.mp q).elim (fun z => .inr (by rw [List.mem_singleton.mp z]; exact hp)) fun z => .inl (.inl z)) fun q => .inl (.inr q)
  have f2 := f.ed0 e
  refine ⟨fun i t h => by obtain ⟨v, h1, h2⟩ := f.rel i t h; exact ⟨v, h1, h2.step e (fun _ z => z.elim) (fun a z => z.elim (fun q => (hg a q).imp .inl id) fun q => .inl (.inr q)) hg fun _ _ z => z.elim⟩, f2.un, f2.nd, f2.dj, f2.dw, f2.wl, f2.len, ?_, fun i a q => ?_, fun a q => ?_, fun a q => ?_⟩
  · exact List.nodup_append.mpr ⟨by simp, f.xn, fun a h1 b h2 z => np b (.inl (.inl h2)) (by rw [← z]; exact List.mem_singleton.mp h1)⟩
  · rcases List.mem_append.mp q with q | q
    · exact fun z => np a (.inl (.inr ⟨i, z⟩)) (List.mem_singleton.mp q)
    · exact f.xd i a q
  · rcases List.mem_append.mp q with q | q
    · exact fun z => np a (.inr z) (List.mem_singleton.mp q)
    · exact f.xw a q
  · rcases List.mem_append.mp q with q | q
    · rw [List.mem_singleton.mp q]; exact hp'
    · exact f2.xl a q
end
/-! ### readings -/
section
variable (K : PySem.W.Frag) (sh : Nat → Sh)
def Ke (Wx : WX) (W : Addr → Prop) (X : List Addr) (Fm : Nat → List Addr) (σ : L2.St) (H : Hp) (e : Xn) (δ' : Dl) : Prop :=
  ∀ d v H' Fm', Fr K sh W X Fm' H' σ δ' → Xt (Om Fm) (Om Fm') H H' → (¬ Gw X Fm' W d ∧ H' d = some (.xd [(e.fld, v)])) → Df K (Gw X Fm' W) H' v e.val → Wx (.ref (He.ga K e.cls)) (some d) σ H'
def Kf (Wx : WX) (W : Addr → Prop) (X : List Addr) (Fm : Nat → List Addr) (σ : L2.St) (H : Hp) (r : Rs) (Q : VK) : Prop := match r with
  | none => False
  | some (.ok t, δ') => ∀ x H' Fm', Fr K sh W X Fm' H' σ δ' → Xt (Om Fm) (Om Fm') H H' → Df K (Gw X Fm' W) H' x t → Q x H'
  | some (.error e, δ') => Ke K sh Wx W X Fm σ H e δ'
/-- an expression whose value is frozen data -/
def TF (Wx : WX) (f : Dl → Rs) : TE := fun σ H Q => ∃ W X Fm δ, Fr K sh W X Fm H σ δ ∧ Kf K sh Wx W X Fm σ H (f δ) Q
def Kn (s : Sh) (Wx : WX) (W : Addr → Prop) (X : List Addr) (Fm : Nat → List Addr) (σ : L2.St) (H : Hp) (r : Rs) (Q : VK) : Prop := match r with
  | none => False
  | some (.ok t, δ') => ∀ x H' Fm' F, Fr K sh W (F ++ X) Fm' H' σ δ' → Ow K (Gw (F ++ X) Fm' W) H' s F x t → Xt (Om Fm) (fun a => a ∈ F ∨ Om Fm' a) H H' → Q x H'
  | some (.error e, δ') => Ke K sh Wx W X Fm σ H e δ'
/-- how a quiet expression's value stands: frozen, lent, its parts frozen, or just so -/
inductive Md where
  | fz | vw | ch | rd
def Rm (X : List Addr) (Fm : Nat → List Addr) (W : Addr → Prop) (H : Hp) (m : Md) (x : V) (t : T) : Prop := match m with
  | .fz => Df K (Gw X Fm W) H x t
  | .vw => Df K (Gm X Fm) H x t
  | .ch => Vw K (Gw X Fm W) H x t
  | .rd => Rp K H x t
/-- a quiet expression: nothing but new things comes of it, and nothing is raised -/
def TQ (m : Md) (f : Dl → Option T) : TE := fun σ H Q => ∃ W X Fm δ t, Fr K sh W X Fm H σ δ ∧ f δ = some t ∧ ∀ x H', EdP noA H H' → Rm K X Fm W H' m x t → Q x H'
end
def qE (f : Dl → Option T) : Dl → Rs := fun δ => match f δ with
  | none => none
  | some t => some (.ok t, δ)
inductive Opd where
  | var (i : Nat) | val (f : Dl → Rs)
def TO (K : PySem.W.Frag) (sh : Nat → Sh) (Wx : WX) : Opd → TE
  | .var i => tVar i
  | .val f => TF K sh Wx f
def TOs (K : PySem.W.Frag) (sh : Nat → Sh) (Wx : WX) : List Opd → TA
  | [] => tNil
  | o :: r => tCons (TO K sh Wx o) (TOs K sh Wx r)
abbrev Rls := Option (Except Xn (List (Nat ⊕ T)) × Dl)
def runs : List Opd → Dl → Rls
  | [], δ => some (.ok [], δ)
  | .var i :: r, δ => match dAt δ i with
    | none => none
    | some _ => match runs r δ with
      | none => none
      | some (.error e, δ') => some (.error e, δ')
      | some (.ok l, δ') => some (.ok (.inl i :: l), δ')
  | .val f :: r, δ => match f δ with
    | none => none
    | some (.error e, δ') => some (.error e, δ')
    | some (.ok t, δ1) => match runs r δ1 with
      | none => none
      | some (.error e, δ') => some (.error e, δ')
      | some (.ok l, δ') => some (.ok (.inr t :: l), δ')
/-- the operands' trees, those of variables as they stand now -/
def res : List (Nat ⊕ T) → Dl → Option (List T)
  | [], _ => some []
  | .inl i :: r, δ => match dAt δ i, res r δ with
    | some t, some ts => some (t :: ts)
    | _, _ => none
  | .inr t :: r, δ => match res r δ with
    | some ts => some (t :: ts)
    | none => none
inductive ArgR (K : PySem.W.Frag) (G : Addr → Prop) (H : Hp) (σ : L2.St) : List (Nat ⊕ T) → List V → Prop
  | nil : ArgR K G H σ [] []
  | var {i : Nat} {x : V} {l : List (Nat ⊕ T)} {xs : List V} : σ[i]? = some (some x) → ArgR K G H σ l xs → ArgR K G H σ (.inl i :: l) (x :: xs)
  | val {t : T} {x : V} {l : List (Nat ⊕ T)} {xs : List V} : Df K G H x t → ArgR K G H σ l xs → ArgR K G H σ (.inr t :: l) (x :: xs)
section
variable {K : PySem.W.Frag} {sh : Nat → Sh} {Wx : WX} {W : Addr → Prop} {X : List Addr} {Fm Fm1 : Nat → List Addr} {H H1 : Hp} {σ : L2.St} {δ : Dl} {r : Rs} {Q : VK}
theorem Xt.gw {X X' : List Addr} {Fm' : Nat → List Addr} {H' : Hp} (x : Xt (Om Fm) (Om Fm') H H') (hx : ∀ a ∈ X', a ∈ X) : ∀ a, Gw X' Fm' W a → Gw X Fm W a ∨ H a = none := fun a z => z.elim (fun q => q.elim (fun w => .inl (.inl (.inl (hx a w)))) fun w => (x.2 a w).imp (fun y => .inl (.inr y)) id) fun q => .inl (.inr q)
theorem Df.xt {Fm' : Nat → List Addr} {H' : Hp} {v : V} {t : T} (x : Xt (Om Fm) (Om Fm') H H') (h : Df K (Gw X Fm W) H v t) : Df K (Gw X Fm' W) H' v t :=
  h.step x.1 (fun a z => .inl (.inl (.inr z))) (x.gw fun _ z => z)
theorem ArgR.xt {Fm' : Nat → List Addr} {H' : Hp} (x : Xt (Om Fm) (Om Fm') H H') : ∀ {l : List (Nat ⊕ T)} {xs : List V}, ArgR K (Gw X Fm W) H σ l xs → ArgR K (Gw X Fm' W) H' σ l xs
  | _, _, .nil => .nil
  | _, _, .var h r => .var h (ArgR.xt x r)
  | _, _, .val h r => .val (h.xt x) (ArgR.xt x r)
end
/-! ### operations -/
inductive VwL (K : PySem.W.Frag) (G : Addr → Prop) (H : Hp) : List V → List T → Prop
  | nil : VwL K G H [] []
  | cons {v : V} {t : T} {vs : List V} {ts : List T} : Vw K G H v t → VwL K G H vs ts → VwL K G H (v :: vs) (t :: ts)
def opn (op : List T → Option T) (os : List Opd) : Dl → Rs := fun δ => match runs os δ with
  | none => none
  | some (.error e, δ') => some (.error e, δ')
  | some (.ok l, δ') => match res l δ' with
    | none => none
    | some ts => match op ts with
      | none => none
      | some c => some (.ok c, δ')
/-- a rule over values does what op does over trees -/
def DOp (K : PySem.W.Frag) (r : List V → Hp → VK → Prop) (op : List T → Option T) : Prop := ∀ (G : Addr → Prop) (H : Hp) (xs : List V) (ts : List T) (c : T) (Q : VK), VwL K G H xs ts → op ts = some c → (∀ a, G a → H a ≠ none) →
  (∀ z H', EdP noA H H' → Df K G H' z c → Q z H') → r xs H Q
/-- .. and makes a new list, dict or object -/
def DNew (K : PySem.W.Frag) (r : List V → Hp → VK → Prop) (op : List T → Option T) : Prop := ∀ (G : Addr → Prop) (H : Hp) (xs : List V) (ts : List T) (c : T) (Q : VK), VwL K G H xs ts → op ts = some c → (∀ a, G a → H a ≠ none) →
  (∀ p vs H', H p = none → EdP noA H H' → Cell K H' p c vs → DfL K (fun a => a = p ∨ G a) H' vs c.kids → Q (.ref p) H') → r xs H Q
theorem DNew.op {K : PySem.W.Frag} {r : List V → Hp → VK → Prop} {op : List T → Option T} (h : DNew K r op) : DOp K r op := fun G H xs ts c Q v e al q =>
  h G H xs ts c Q v e al fun p vs H' hp ed ce df => q _ _ ed (.nd (fun z => al p z hp) ce.r (df.weak fun a z => .inr z))
def inls : List (Nat ⊕ T) → List Nat
  | [] => []
  | .inl i :: r => i :: inls r
  | .inr _ :: r => inls r
section
variable {K : PySem.W.Frag} {sh : Nat → Sh} {Wx : WX} {W : Addr → Prop} {X : List Addr} {Fm Fm1 : Nat → List Addr} {H H1 : Hp} {σ : L2.St} {δ : Dl} {r : Rs} {Q : VK}
theorem flat_pln {s : Sh} (h : s.flat = true) : s.pln = true := by cases s <;> first | rfl | cases h
theorem ArgR.vw (f : Fr K sh W X Fm H σ δ) : ∀ {l : List (Nat ⊕ T)} {xs : List V} {ts : List T}, ArgR K (Gw X Fm W) H σ l xs → (∀ i ∈ inls l, (sh i).flat = true) → res l δ = some ts → VwL K (Gw X Fm W) H xs ts
  | _, _, _, .nil, _, e => by cases e; exact .nil
  | _, _, ts, .var (i := i) hv r, hf, e => by
    unfold res at e
    split at e
    · rename_i t ts' q1 q2
      cases e
      obtain ⟨v, h1, h2⟩ := f.rel i t q1
      rw [hv] at h1
      cases h1
      exact .cons ((h2.own (flat_pln (hf i (List.mem_cons_self ..)))).vw (hf i (List.mem_cons_self ..))) (ArgR.vw f r (fun j z => hf j (List.mem_cons_of_mem _ z)) q2)
    · cases e
  | _, _, ts, .val h r, hf, e => by
    unfold res at e
    split at e
    · rename_i ts' q
      cases e
      exact .cons h.vw (ArgR.vw f r hf q)
    · cases e
end
end NQ
namespace NQ
open PySem L2
/-! ### expressions by their operands -/
def tAll : List TE → TA
  | [] => tNil
  | t :: r => tCons t (tAll r)
inductive PEs (X : Cx) : List Expr → List TE → Prop
  | nil : PEs X [] []
  | cons {e : Expr} {es : List Expr} {t : TE} {ts : List TE} : PE X e t → PEs X es ts → starEach (e :: es) X.env = (false, eval e X.env) :: starEach es X.env → PEs X (e :: es) (t :: ts)
theorem PEs.c {X : Cx} {e : Expr} {es : List Expr} {t : TE} {ts : List TE} (h : PE X e t) (r : PEs X es ts) (hs : starEach (e :: es) X.env = (false, eval e X.env) :: starEach es X.env := by rfl) : PEs X (e :: es) (t :: ts) := .cons h r hs
theorem PEs.pa {X : Cx} : ∀ {es : List Expr} {ts : List TE}, PEs X es ts → PA X es (tAll ts)
  | _, _, .nil => pa_nil
  | _, _, .cons h r s => pa_cons h (PEs.pa r) s
abbrev RV := List V → Hp → VK → Prop
/-- e makes its operands from the left, then does what r tells -/
def Con (X : Cx) (e : Expr) (es : List Expr) (r : RV) : Prop := ∀ ts, PEs X es ts → PE X e fun σ H Q => tAll ts σ H fun xs H' => r xs H' Q
def ConT (X : Cx) (e : Expr) (es : List Expr) (r : RV) : Prop := ∀ ts, PEs X es ts → PT X e fun σ H Q => tAll ts σ H fun xs H' => r xs H' fun x H'' => ∃ k, x = .bl k ∧ Q k H''
def r1 (r : V → Hp → VK → Prop) : RV := fun xs H Q => match xs with
  | [x] => r x H Q
  | _ => False
def r2 (r : R2) : RV := fun xs H Q => match xs with
  | [x, y] => r x y H Q
  | _ => False
section
variable {X : Cx} {a b : Expr} {pos : Pos} {r : R2}
end
/-! ### what rules do over trees -/
/-- operands by what they stand for alone; the outcome lies apart from all that was -/
def DRd (K : PySem.W.Frag) (r : RV) (op : List T → Option T) : Prop := ∀ (H : Hp) (xs : List V) (ts : List T) (c : T) (Q : VK), RpL K H xs ts → op ts = some c →
  (∀ z H', EdP noA H H' → (∀ G : Addr → Prop, (∀ a, G a → H a ≠ none) → Df K G H' z c) → Q z H') → r xs H Q
theorem VwL.rp {K : PySem.W.Frag} {G : Addr → Prop} {H : Hp} : ∀ {vs : List V} {ts : List T}, VwL K G H vs ts → RpL K H vs ts
  | _, _, .nil => .nil
  | _, _, .cons h r => .cons h.rp (VwL.rp r)
theorem DRd.op {K : PySem.W.Frag} {r : RV} {op : List T → Option T} (h : DRd K r op) : DOp K r op := fun G H xs ts c Q v e al q => h H xs ts c Q v.rp e fun z H' ed d => q z H' ed (d G al)
abbrev Op := List T → Option T
def altT (f g : Op) : Op := fun ts => match f ts with
  | some c => some c
  | none => g ts
inductive CoR (X : Cx) (K : PySem.W.Frag) (e : Expr) (es : List Expr) : Op → Prop
  | one {r : RV} {op : Op} : Con X e es r → DRd K r op → CoR X K e es op
  | alt {f g : Op} : CoR X K e es f → CoR X K e es g → CoR X K e es (altT f g)
inductive Co (X : Cx) (K : PySem.W.Frag) (e : Expr) (es : List Expr) : Op → Prop
  | one {r : RV} {op : Op} : Con X e es r → DOp K r op → Co X K e es op
  | alt {f g : Op} : Co X K e es f → Co X K e es g → Co X K e es (altT f g)
inductive CoRT (X : Cx) (K : PySem.W.Frag) (e : Expr) (es : List Expr) : Op → Prop
  | one {r : RV} {op : Op} : ConT X e es r → DRd K r op → (∀ ts c, op ts = some c → ∃ b, c = .bl b) → CoRT X K e es op
  | alt {f g : Op} : CoRT X K e es f → CoRT X K e es g → CoRT X K e es (altT f g)
theorem CoR.co {X : Cx} {K : PySem.W.Frag} {e : Expr} {es : List Expr} {op : Op} (h : CoR X K e es op) : Co X K e es op := by
  induction h with
  | one c d => exact .one c d.op
  | alt _ _ h1 h2 => exact .alt h1 h2
/-- new lists, dicts -/
inductive CoN (X : Cx) (K : PySem.W.Frag) (e : Expr) (es : List Expr) : Op → Prop
  | one {r : RV} {op : Op} : Con X e es r → DNew K r op → (∀ ts c, op ts = some c → (Sh.all .fz).kids c = some (c.kids.map fun _ => .fz)) → CoN X K e es op
  | alt {f g : Op} : CoN X K e es f → CoN X K e es g → CoN X K e es (altT f g)
theorem CoN.co {X : Cx} {K : PySem.W.Frag} {e : Expr} {es : List Expr} {op : Op} (h : CoN X K e es op) : Co X K e es op := by
  induction h with
  | one c d k => exact .one c d.op
  | alt _ _ h1 h2 => exact .alt h1 h2
/-! ### quiet operands -/
abbrev Qf := Dl → Option T
def evq : List Qf → Dl → Option (List T)
  | [], _ => some []
  | f :: r, δ => match f δ with
    | none => none
    | some t => match evq r δ with
      | none => none
      | some ts => some (t :: ts)
def opq (op : Op) (fs : List Qf) : Qf := fun δ => match evq fs δ with
  | none => none
  | some ts => op ts
inductive RmL (K : PySem.W.Frag) (X : List Addr) (Fm : Nat → List Addr) (W : Addr → Prop) (H : Hp) : List Md → List V → List T → Prop
  | nil : RmL K X Fm W H [] [] []
  | cons {m : Md} {ms : List Md} {v : V} {t : T} {vs : List V} {ts : List T} : Rm K X Fm W H m v t → RmL K X Fm W H ms vs ts → RmL K X Fm W H (m :: ms) (v :: vs) (t :: ts)
section
variable {K : PySem.W.Frag} {sh : Nat → Sh} {Wx : WX} {W : Addr → Prop} {X : List Addr} {Fm Fm1 : Nat → List Addr} {H H' H1 : Hp} {σ : L2.St} {δ : Dl} {Q : VK}
mutual
theorem Rp.ed0 (e : EdP noA H H') : ∀ {v : V} {t : T}, Rp K H v t → Rp K H' v t
  | _, _, .sc h => .sc h
  | _, _, .nd c r => .nd (c.keep fun o q => e.1 _ _ (fun z => z) q) (RpL.ed0 e r)
theorem RpL.ed0 (e : EdP noA H H') : ∀ {vs : List V} {ts : List T}, RpL K H vs ts → RpL K H' vs ts
  | _, _, .nil => .nil
  | _, _, .cons h r => .cons (Rp.ed0 e h) (RpL.ed0 e r)
end
theorem Vw.ed0 {G : Addr → Prop} {v : V} {t : T} (e : EdP noA H H') (h : Vw K G H v t) : Vw K G H' v t := by
  rcases h with h | ⟨a, vs, h1, h2, h3⟩
  · exact .inl h
  · exact .inr ⟨a, vs, h1, h2.keep fun o q => e.1 _ _ (fun z => z) q, h3.ed0 e⟩
theorem Rm.ed0 {m : Md} {v : V} {t : T} (e : EdP noA H H') (h : Rm K X Fm W H m v t) : Rm K X Fm W H' m v t := by
  cases m with
  | fz => exact Df.ed0 e h
  | vw => exact Df.ed0 e h
  | ch => exact Vw.ed0 e h
  | rd => exact Rp.ed0 e h
theorem Rm.rp {m : Md} {v : V} {t : T} (h : Rm K X Fm W H m v t) : Rp K H v t := by
  cases m with
  | fz => exact Df.rp h
  | vw => exact Df.rp h
  | ch => exact Vw.rp h
  | rd => exact h
theorem RmL.rp : ∀ {ms : List Md} {vs : List V} {ts : List T}, RmL K X Fm W H ms vs ts → RpL K H vs ts
  | _, _, _, .nil => .nil
  | _, _, _, .cons h r => .cons h.rp (RmL.rp r)
def chL (ms : List Md) : Bool := ms.all fun m => match m with | .fz => true | .ch => true | _ => false
def vwL (ms : List Md) : Bool := ms.all fun m => match m with | .fz => true | .vw => true | _ => false
theorem RmL.ch : ∀ {ms : List Md} {vs : List V} {ts : List T}, chL ms = true → RmL K X Fm W H ms vs ts → VwL K (Gw X Fm W) H vs ts
  | _, _, _, _, .nil => .nil
  | m :: ms, _, _, z, .cons h r => by
    unfold chL at z
    rw [List.all_cons, Bool.and_eq_true] at z
    refine .cons ?_ (RmL.ch z.2 r)
    cases m with
    | fz => exact Df.vw h
    | ch => exact h
    | vw => exact absurd z.1 Bool.false_ne_true
    | rd => exact absurd z.1 Bool.false_ne_true
theorem RmL.vw : ∀ {ms : List Md} {vs : List V} {ts : List T}, vwL ms = true → RmL K X Fm W H ms vs ts → VwL K (Gm X Fm) H vs ts
  | _, _, _, _, .nil => .nil
  | m :: ms, _, _, z, .cons h r => by
    unfold vwL at z
    rw [List.all_cons, Bool.and_eq_true] at z
    refine .cons ?_ (RmL.vw z.2 r)
    cases m with
    | fz => exact Df.vw (Df.weak (fun a q => .inl q) h)
    | vw => exact Df.vw h
    | ch => exact absurd z.1 Bool.false_ne_true
    | rd => exact absurd z.1 Bool.false_ne_true
theorem RmL.ed0 (e : EdP noA H H') : ∀ {ms : List Md} {vs : List V} {ts : List T}, RmL K X Fm W H ms vs ts → RmL K X Fm W H' ms vs ts
  | _, _, _, .nil => .nil
  | _, _, _, .cons h r => .cons (h.ed0 e) (RmL.ed0 e r)
end
section
variable {X : Cx} {K : PySem.W.Frag} {sh : Nat → Sh} {Wx : WX} {e : Expr} {es : List Expr} {op : Op} {l : List (Md × Qf)} {os : List Opd}
/-! ### slots, written things, coercions -/
end
end NQ
namespace NQ
open PySem L2
/-! ### operands that are stored: lists, tuples written out -/
section
variable {K : PySem.W.Frag} {sh : Nat → Sh} {Wx : WX} {W : Addr → Prop} {X : List Addr} {Fm Fm1 : Nat → List Addr} {H H' H1 : Hp} {σ : L2.St} {δ : Dl} {Q : VK}
theorem RmL.df : ∀ {ms : List Md} {vs : List V} {ts : List T}, (ms.all fun m => match m with | .fz => true | _ => false) = true → RmL K X Fm W H ms vs ts → DfL K (Gw X Fm W) H vs ts
  | _, _, _, _, .nil => .nil
  | m :: ms, _, _, z, .cons h r => by
    rw [List.all_cons, Bool.and_eq_true] at z
    refine .cons ?_ (RmL.df z.2 r)
    cases m with
    | fz => exact h
    | ch => exact absurd z.1 Bool.false_ne_true
    | vw => exact absurd z.1 Bool.false_ne_true
    | rd => exact absurd z.1 Bool.false_ne_true
theorem RmL.dv : ∀ {ms : List Md} {vs : List V} {ts : List T}, vwL ms = true → RmL K X Fm W H ms vs ts → DfL K (Gm X Fm) H vs ts
  | _, _, _, _, .nil => .nil
  | m :: ms, _, _, z, .cons h r => by
    unfold vwL at z
    rw [List.all_cons, Bool.and_eq_true] at z
    refine .cons ?_ (RmL.dv z.2 r)
    cases m with
    | fz => exact Df.weak (fun a q => .inl q) h
    | vw => exact h
    | ch => exact absurd z.1 Bool.false_ne_true
    | rd => exact absurd z.1 Bool.false_ne_true
theorem ArgR.df : ∀ {l : List (Nat ⊕ T)} {xs : List V} {ts : List T}, ArgR K (Gw X Fm W) H σ l xs → inls l = [] → res l δ = some ts → DfL K (Gw X Fm W) H xs ts
  | _, _, _, .nil, _, e => by cases e; exact .nil
  | _, _, ts, .var (i := i) hv r, hf, e => by cases hf
  | _, _, ts, .val h r, hf, e => by
    unfold res at e
    split at e
    · rename_i ts' q
      cases e
      exact .cons h (ArgR.df r hf q)
    · cases e
end
section
variable {X : Cx} {K : PySem.W.Frag} {sh : Nat → Sh} {Wx : WX} {e : Expr} {es : List Expr} {op : Op} {l : List (Md × Qf)} {os : List Opd} {rr : RV}
def lstT : Op := fun ts => if ts.length ≤ sizeLine then some (.lst ts) else none
def tupT : Op := fun ts => if ts.length ≤ sizeLine then some (.tup ts) else none
end
end NQ
namespace NQ
open PySem L2
/-! ### signs that are signs -/
theorem sok_iff {s : Str} : PyData.strOk s = true ↔ ∀ c ∈ s.cps.toList, c < 0x110000 := by
  unfold PyData.strOk
  rw [← Array.all_toList, List.all_eq_true]
  simp
theorem sok_asc {x : Str} (h : ∀ c ∈ x.cps.toList, c ≤ 127) : PyData.strOk x = true := sok_iff.mpr fun c hc => Nat.lt_of_le_of_lt (h c hc) (by decide)
/-! ### what scalars are -/
section
variable {K : PySem.W.Frag} {H : Hp} {x : V} {i : Int} {s : Str} {b : Bool}
theorem Rp.int (h : Rp K H x (.int i)) : x = .int i := h.isS rfl
theorem Rp.bl (h : Rp K H x (.bl b)) : x = .bl b := h.isS rfl
theorem Rp.non (h : Rp K H x .non) : x = .non := h.isS rfl
theorem Rp.str (h : Rp K H x (.str s)) : x = .str s ∧ PyData.strOk s = true := by
  cases h with
  | sc h => exact h
  | nd c _ => exact c.elim
theorem Rp.ty {n : String} (h : Rp K H x (.ty n)) : x = .ty n := by
  cases h with
  | sc h => exact h
  | nd c _ => exact c.elim
theorem Rp.gl {n : Str} (h : Rp K H x (.gl n)) : x = .ref (He.ga K n) := by
  cases h with
  | sc h => exact h
  | nd c _ => exact c.elim
theorem Rp.lst {ts : List T} (h : Rp K H x (.lst ts)) : ∃ a vs, x = .ref a ∧ SqL K H a vs ∧ RpL K H vs ts := by
  cases h with
  | sc h => exact h.elim
  | nd c r => exact ⟨_, _, rfl, .inl c, r⟩
theorem RpL.sv : ∀ {ts : List T}, ts.all T.isS = true → RpL K H (ts.map T.sv) ts := fun h => (DfL.sv (G := noA) h).rp
theorem Rp.tup {ts : List T} (h : Rp K H x (.tup ts)) : ∃ a vs, x = .ref a ∧ SqT K H a vs ∧ RpL K H vs ts := by
  cases h with
  | sc h => exact h.elim
  | nd c r => exact ⟨_, _, rfl, SqT.of c, r⟩
theorem Rp.ctup {ts : List T} (h : Rp K H x (.ctup ts)) : ∃ a vs, x = .ref a ∧ SqT K H a vs ∧ RpL K H vs ts ∧ ts.all T.isS = true := by
  cases h with
  | sc h =>
    obtain ⟨a, e, h, z⟩ := h
    exact ⟨a, _, e, h H, RpL.sv z, z⟩
  | nd c r => exact c.elim
theorem Rp.clst {ts : List T} (h : Rp K H x (.clst ts)) : ∃ a vs, x = .ref a ∧ SqL K H a vs ∧ RpL K H vs ts ∧ ts.all T.isS = true := by
  cases h with
  | sc h =>
    obtain ⟨a, e, h, z⟩ := h
    exact ⟨a, _, e, h H, RpL.sv z, z⟩
  | nd c r => exact c.elim
theorem Rp.dic {ks : List Key} {ts : List T} (h : Rp K H x (.dic ks ts)) : ∃ a vs, x = .ref a ∧ ks.length = vs.length ∧ Rd H a (.dK (ks.zip vs)) ∧ RpL K H vs ts := by
  cases h with
  | sc h => exact h.elim
  | nd c r => exact ⟨_, _, rfl, c.1, c.2, r⟩
theorem Rp.dit {ks : List (List Key)} {ts : List T} (h : Rp K H x (.dit ks ts)) : ∃ a vs, x = .ref a ∧ ks.length = vs.length ∧ Rd H a (.dT (ks.zip vs)) ∧ RpL K H vs ts := by
  cases h with
  | sc h => exact h.elim
  | nd c r => exact ⟨_, _, rfl, c.1, c.2, r⟩
theorem RpL.one {t : T} {xs : List V} (h : RpL K H xs [t]) : ∃ x, xs = [x] ∧ Rp K H x t := by
  cases h with
  | cons h r => cases r; exact ⟨_, rfl, h⟩
theorem RpL.two {t u : T} {xs : List V} (h : RpL K H xs [t, u]) : ∃ x y, xs = [x, y] ∧ Rp K H x t ∧ Rp K H y u := by
  cases h with
  | cons h r =>
    obtain ⟨y, rfl, h2⟩ := r.one
    exact ⟨_, _, rfl, h, h2⟩
theorem RpL.at : ∀ {vs : List V} {ts : List T} {i : Nat} {t : T}, RpL K H vs ts → ts[i]? = some t → ∃ v, vs[i]? = some v ∧ Rp K H v t
  | _, _, _, _, .nil, e => by simp at e
  | _, _, 0, _, .cons h _, e => by simp at e; subst e; exact ⟨_, rfl, h⟩
  | _, _, i + 1, _, .cons _ r, e => by
    obtain ⟨v, h1, h2⟩ := RpL.at r (i := i) (by simpa using e)
    exact ⟨v, by simpa using h1, h2⟩
end
theorem VwL.one {K : PySem.W.Frag} {G : Addr → Prop} {H : Hp} {t : T} {xs : List V} (h : VwL K G H xs [t]) : ∃ x, xs = [x] ∧ Vw K G H x t := by
  cases h with
  | cons h r => cases r; exact ⟨_, rfl, h⟩
theorem VwL.two {K : PySem.W.Frag} {G : Addr → Prop} {H : Hp} {t u : T} {xs : List V} (h : VwL K G H xs [t, u]) : ∃ x y, xs = [x, y] ∧ Vw K G H x t ∧ Vw K G H y u := by
  cases h with
  | cons h r =>
    obtain ⟨y, rfl, h2⟩ := r.one
    exact ⟨_, _, rfl, h, h2⟩
theorem Vw.lst {K : PySem.W.Frag} {G : Addr → Prop} {H : Hp} {x : V} {ts : List T} (h : Vw K G H x (.lst ts)) : ∃ a vs, x = .ref a ∧ Rd H a (.lst vs) ∧ DfL K G H vs ts := by
  rcases h with h | ⟨a, vs, rfl, c, r⟩
  · exact h.elim
  · exact ⟨a, vs, rfl, c, r⟩
theorem Vw.tup {K : PySem.W.Frag} {G : Addr → Prop} {H : Hp} {x : V} {ts : List T} (h : Vw K G H x (.tup ts)) : ∃ a vs, x = .ref a ∧ H a = some (.tup vs) ∧ DfL K G H vs ts := by
  rcases h with h | ⟨a, vs, rfl, c, r⟩
  · exact h.elim
  · exact ⟨a, vs, rfl, c, r⟩
/-! ### numbers and texts -/
def addR : Op
  | [.int i, .int j] => some (.int (i + j))
  | [.str a, .str b] => if a.length + b.length ≤ sizeLine then some (.str (a ++ b)) else none
  | _ => none
def subT : Op
  | [.int i, .int j] => some (.int (i - j))
  | _ => none
def mulR : Op
  | [.int i, .int j] => if (-(2 ^ 64) < i ∧ i < 2 ^ 64) ∨ (-(2 ^ 64) < j ∧ j < 2 ^ 64) ∨ i.natAbs.log2 + j.natAbs.log2 < 1000000 then some (.int (i * j)) else none
  | [.str a, .int n] => if -(2 ^ 20) < n ∧ n < 2 ^ 20 ∧ a.length * n.toNat ≤ 1000000 then some (.str (Txt.mul a n)) else none
  | _ => none
def modT : Op
  | [.int i, .int j] => if 0 < j then some (.int (i % j)) else none
  | _ => none
def divT : Op
  | [.int i, .int j] => if 0 < j ∧ j.natAbs.log2 < 9000 then some (.int (i / j)) else none
  | _ => none
def powT : Op
  | [.int i, .int j] => if 0 ≤ j ∧ j ≤ 1000000 ∧ i.natAbs < 2 ^ 64 then some (.int (i ^ j.toNat)) else none
  | _ => none
def cmpT (f : Int → Int → Bool) : Op
  | [.int i, .int j] => some (.bl (f i j))
  | _ => none
def negT : Op
  | [.int i] => some (.int (-i))
  | _ => none
section
variable {K : PySem.W.Frag}
/-! ### == and != -/
mutual
def T.pd : T → Option PyData
  | .non => some .none
  | .bl b => some (.bool b)
  | .int i => some (.int i)
  | .str s => some (.str s)
  | .lst ts => match pdL ts with | some ds => some (.list ds) | none => none
  | .tup ts => match pdL ts with | some ds => some (.tuple ds) | none => none
  | .ctup ts => match pdL ts with | some ds => some (.tuple ds) | none => none
  | .dic _ _ => none | .dit _ _ => none | .ins _ _ _ => none | .gl _ => none | .ty _ => none | .clst _ => none
def pdL : List T → Option (List PyData)
  | [] => some []
  | t :: r => match t.pd, pdL r with
    | some d, some ds => some (d :: ds)
    | _, _ => none
end
end
mutual
theorem Rp.dp {K : PySem.W.Frag} {H : Hp} : ∀ {t : T} {x : V} {d : PyData}, Rp K H x t → t.pd = some d → Dp K H x d ∧ d.canLay0 = true
  | .non, _, _, h, e => by cases e; cases h.non; exact ⟨.non, by simp [PyData.canLay0]⟩
  | .bl b, _, _, h, e => by cases e; cases h.bl; exact ⟨.bl b, by simp [PyData.canLay0]⟩
  | .int i, _, _, h, e => by cases e; cases h.int; exact ⟨.int i, by simp [PyData.canLay0]⟩
  | .str s, _, _, h, e => by
    cases e
    obtain ⟨rfl, s1⟩ := h.str
    exact ⟨.str s, by simp [PyData.canLay0, s1]⟩
  | .lst ts, _, _, h, e => by
    unfold T.pd at e
    cases q : pdL ts with
    | none => rw [q] at e; cases e
    | some ds =>
      rw [q] at e
      cases e
      obtain ⟨a, vs, rfl, h1, h2⟩ := h.lst
      obtain ⟨k1, k2⟩ := RpL.dp h2 q
      exact ⟨.lst h1 k1, by simp only [PyData.canLay0, k2]⟩
  | .tup ts, _, _, h, e => by
    unfold T.pd at e
    cases q : pdL ts with
    | none => rw [q] at e; cases e
    | some ds =>
      rw [q] at e
      cases e
      obtain ⟨a, vs, rfl, h1, h2⟩ := h.tup
      obtain ⟨k1, k2⟩ := RpL.dp h2 q
      exact ⟨.tup h1 k1, by simp only [PyData.canLay0, k2]⟩
  | .ctup ts, _, _, h, e => by
    unfold T.pd at e
    cases q : pdL ts with
    | none => rw [q] at e; cases e
    | some ds =>
      rw [q] at e
      cases e
      obtain ⟨a, vs, rfl, h1, h2, _⟩ := h.ctup
      obtain ⟨k1, k2⟩ := RpL.dp h2 q
      exact ⟨.tup h1 k1, by simp only [PyData.canLay0, k2]⟩
  | .dic _ _, _, _, _, e => by cases e
  | .dit _ _, _, _, _, e => by cases e
  | .ins _ _ _, _, _, _, e => by cases e
  | .gl _, _, _, _, e => by cases e
  | .ty _, _, _, _, e => by cases e
theorem RpL.dp {K : PySem.W.Frag} {H : Hp} : ∀ {ts : List T} {xs : List V} {ds : List PyData}, RpL K H xs ts → pdL ts = some ds → DpAll K H xs ds ∧ PyData.canLayAll0 ds = true
  | [], _, _, h, e => by cases e; cases h; exact ⟨.nil, by simp [PyData.canLayAll0]⟩
  | t :: r, _, _, h, e => by
    unfold pdL at e
    cases h with
    | cons h1 h2 =>
      split at e
      · rename_i d ds q1 q2
        cases e
        obtain ⟨k1, k2⟩ := Rp.dp h1 q1
        obtain ⟨k3, k4⟩ := RpL.dp h2 q2
        exact ⟨.cons k1 k3, by simp [PyData.canLayAll0, k2, k4]⟩
      · cases e
end
/-- == over trees -/
def eqB (a b : T) : Option Bool := match a.pd, b.pd with
  | some d, some e => if d.depth ≤ 60 ∧ e.depth ≤ 60 then some (PyData.eqv d e) else none
  | _, _ => none
def eqT : Op
  | [a, b] => match eqB a b with | some b => some (.bl b) | none => none
  | _ => none
def neT : Op
  | [a, b] => match eqB a b with | some b => some (.bl (!b)) | none => none
  | _ => none
section
variable {K : PySem.W.Frag}
/-! ### is None -/
def T.isN : T → Bool
  | .non => true
  | _ => false
def isNT : Op
  | [a, .non] => some (.bl a.isN)
  | _ => none
def notNT : Op
  | [a, .non] => some (.bl (!a.isN))
  | _ => none
theorem Rp.isN {H : Hp} {x : V} {t : T} (h : Rp K H x t) : decide (x = .non) = t.isN := by
  cases h with
  | sc h =>
    cases t <;> first
      | (cases h; rfl)
      | (obtain ⟨rfl, _⟩ := h; rfl)
      | exact h.elim
      | (obtain ⟨_, rfl, _⟩ := h; rfl)
  | nd c _ => cases t <;> first
      | rfl
      | exact c.elim
/-! ### in -/
def inS (t : T) (ts : List T) : Bool := inV t.sv (ts.map T.sv)
/-- is it in: a list, a tuple, a text -/
def memB (x c : T) : Option Bool := match c with
  | .lst ts => if x.isS = true ∧ ts.all T.isS = true then some (inS x ts) else none
  | .tup ts => if x.isS = true ∧ ts.all T.isS = true then some (inS x ts) else none
  | .ctup ts => if x.isS = true then some (inS x ts) else none
  | .str z => match x with
    | .str s => match s.cps.toList with
      | [c] => some (decide (c ∈ z.cps.toList))
      | _ => none
    | _ => none
  | _ => none
def inT : Op
  | [x, c] => match memB x c with | some b => some (.bl b) | none => none
  | _ => none
def ninT : Op
  | [x, c] => match memB x c with | some b => some (.bl (!b)) | none => none
  | _ => none
end
end NQ
namespace NQ
open PySem L2
section
variable {K : PySem.W.Frag} {G : Addr → Prop} {H : Hp}
/-! ### a[i] -/
def seqT : T → Option (List T)
  | .lst ts => some ts
  | .tup ts => some ts
  | .ctup ts => some ts
  | .clst ts => some ts
  | _ => none
def ixR : Op
  | [a, .int i] => match a with
    | .str z => if z.length ≤ sizeLine then (match atI z.cps.toList i with | some c => some (.str ⟨#[c]⟩) | none => none) else none
    | a => match seqT a with
      | some ts => match atI ts i with
        | some t => if t.isS then some t else none
        | none => none
      | none => none
  | _ => none
def ixD : Op
  | [.lst ts, .int i] => atI ts i
  | [.tup ts, .int i] => atI ts i
  | _ => none
theorem Rp.seq {x : V} {a : T} {ts : List T} (h : Rp K H x a) (e : seqT a = some ts) : ∃ p vs, x = .ref p ∧ (SqL K H p vs ∨ SqT K H p vs) ∧ RpL K H vs ts := by
  unfold seqT at e
  split at e <;> cases e
  · obtain ⟨p, vs, rfl, h1, h2⟩ := h.lst; exact ⟨p, vs, rfl, .inl h1, h2⟩
  · obtain ⟨p, vs, rfl, h1, h2⟩ := h.tup; exact ⟨p, vs, rfl, .inr h1, h2⟩
  · obtain ⟨p, vs, rfl, h1, h2, _⟩ := h.ctup; exact ⟨p, vs, rfl, .inr h1, h2⟩
  · obtain ⟨p, vs, rfl, h1, h2, _⟩ := h.clst; exact ⟨p, vs, rfl, .inl h1, h2⟩
/-! ### dicts: d[k], k in d -/
def T.key : T → Option Key
  | .int i => some (.inl i)
  | .str s => some (.inr s)
  | _ => none
def keysT : List T → Option (List Key)
  | [] => some []
  | t :: r => match t.key, keysT r with
    | some k, some ks => some (k :: ks)
    | _, _ => none
/-- the value at the key k -/
def lookT {κ : Type} [DecidableEq κ] (ks : List κ) (ts : List T) (k : κ) : Option T := match ks, ts with
  | a :: ks, t :: ts => if a = k then some t else lookT ks ts k
  | _, _ => none
def dlook (d k : T) : Option (Option T) := match d with
  | .dic ks ts => match k.key with
    | some k => some (lookT ks ts k)
    | none => none
  | .dit ks ts => match k with
    | .tup us => match keysT us with
      | some k => some (lookT ks ts k)
      | none => none
    | _ => none
  | _ => none
def dgetR : Op
  | [d, k] => match dlook d k with
    | some (some t) => if t.isS then some t else none
    | _ => none
  | _ => none
def dgetD : Op
  | [d, k] => match dlook d k with
    | some (some t) => some t
    | _ => none
  | _ => none
def dinT : Op
  | [k, d] => match dlook d k with | some o => some (.bl o.isSome) | none => none
  | _ => none
def dninT : Op
  | [k, d] => match dlook d k with | some o => some (.bl (!o.isSome)) | none => none
  | _ => none
/-! ### calls -/
def lenT : Op
  | [.str z] => if z.length ≤ sizeLine then some (.int z.length) else none
  | [a] => match seqT a with | some ts => some (.int ts.length) | none => none
  | _ => none
def intT : Op
  | [.int i] => some (.int i)
  | [.bl b] => some (.int (if b then 1 else 0))
  | [.str a] => match PySem.intText? a with
    | some n => if a.length ≤ 640 then some (.int n) else none
    | none => none
  | _ => none
def strT : Op
  | [.int i] => if i.natAbs.log2 < 1920 then some (.str (toString i)) else none
  | [.str a] => some (.str a)
  | _ => none
def absT : Op
  | [.int i] => some (.int (if i < 0 then -i else i))
  | _ => none
def maxT : Op
  | [.int i, .int j] => some (.int (if j > i then j else i))
  | _ => none
def minT : Op
  | [.int i, .int j] => some (.int (if j < i then j else i))
  | _ => none
/-! ### new lists, tuples -/
theorem Vw.seq {x : V} {a : T} {ts : List T} (h : Vw K G H x a) (e : seqT a = some ts) : ∃ p vs, x = .ref p ∧ (SqL K H p vs ∨ SqT K H p vs) ∧ DfL K G H vs ts := by
  unfold seqT at e
  split at e <;> cases e
  · obtain ⟨p, vs, rfl, h1, h2⟩ := h.lst; exact ⟨p, vs, rfl, .inl (.inl h1), h2⟩
  · obtain ⟨p, vs, rfl, h1, h2⟩ := h.tup; exact ⟨p, vs, rfl, .inr (SqT.of h1), h2⟩
  · obtain ⟨p, vs, rfl, h1, h2, h3⟩ := h.rp.ctup
    have := h2.svs h3
    subst this
    exact ⟨p, _, rfl, .inr h1, DfL.sv h3⟩
  · obtain ⟨p, vs, rfl, h1, h2, h3⟩ := h.rp.clst
    have := h2.svs h3
    subst this
    exact ⟨p, _, rfl, .inl h1, DfL.sv h3⟩
def listT : Op
  | [a] => match seqT a with | some ts => some (.lst ts) | none => none
  | _ => none
/-- list(text) -/
def listS : Op
  | [.str z] => if z.length ≤ sizeLine then some (.lst ((NL.sgn z).map T.str)) else none
  | _ => none
def tupleL : Op
  | [.lst ts] => some (.tup ts)
  | _ => none
def addL : Op
  | [.lst xs, .lst ys] => if xs.length + ys.length ≤ sizeLine then some (.lst (xs ++ ys)) else none
  | _ => none
end
end NQ
namespace NQ
open PySem L2
/-! ### operands that are looked at as they come -/
abbrev PV := V → Hp → Prop
def tAllC : List PV → List TE → TA
  | [], ts => tAll ts
  | P :: Ps, t :: ts => fun σ H Q => t σ H fun x H1 => P x H1 ∧ tAllC Ps ts σ H1 fun xs H2 => Q (x :: xs) H2
  | _ :: _, [] => tNil
/-- what is wanted may be weakened -/
def MonoE (t : TE) : Prop := ∀ (σ : L2.St) (H : Hp) (Q Q' : VK), (∀ x H', Q x H' → Q' x H') → t σ H Q → t σ H Q'
def ConC (X : Cx) (e : Expr) (es : List Expr) (Ps : List PV) (r : RV) : Prop := ∀ ts, PEs X es ts → (∀ t ∈ ts, MonoE t) → PE X e fun σ H Q => tAllC Ps ts σ H fun xs H' => r xs H' Q
inductive ChkL (K : PySem.W.Frag) : List PV → List T → Prop
  | nil {ts : List T} : ChkL K [] ts
  | cons {P : PV} {Ps : List PV} {t : T} {ts : List T} : (∀ H x, Rp K H x t → P x H) → ChkL K Ps ts → ChkL K (P :: Ps) (t :: ts)
abbrev Chk (K : PySem.W.Frag) (Ps : List PV) (op : Op) : Prop := ∀ ts c, op ts = some c → ChkL K Ps ts
inductive CoC (X : Cx) (K : PySem.W.Frag) (e : Expr) (es : List Expr) : Op → Prop
  | one {Ps : List PV} {r : RV} {op : Op} : ConC X e es Ps r → DOp K r op → Chk K Ps op → CoC X K e es op
  | alt {f g : Op} : CoC X K e es f → CoC X K e es g → CoC X K e es (altT f g)
inductive CoCR (X : Cx) (K : PySem.W.Frag) (e : Expr) (es : List Expr) : Op → Prop
  | one {Ps : List PV} {r : RV} {op : Op} : ConC X e es Ps r → DRd K r op → Chk K Ps op → CoCR X K e es op
  | alt {f g : Op} : CoCR X K e es f → CoCR X K e es g → CoCR X K e es (altT f g)
theorem CoCR.co {X : Cx} {K : PySem.W.Frag} {e : Expr} {es : List Expr} {op : Op} (h : CoCR X K e es op) : CoC X K e es op := by
  induction h with
  | one c d k => exact .one c d.op k
  | alt _ _ h1 h2 => exact .alt h1 h2
inductive CoCN (X : Cx) (K : PySem.W.Frag) (e : Expr) (es : List Expr) : Op → Prop
  | one {Ps : List PV} {r : RV} {op : Op} : ConC X e es Ps r → DNew K r op → (∀ ts c, op ts = some c → (Sh.all .fz).kids c = some (c.kids.map fun _ => .fz)) → Chk K Ps op → CoCN X K e es op
theorem TQ.mono {K : PySem.W.Frag} {sh : Nat → Sh} {m : Md} {f : Qf} : MonoE (TQ K sh m f) := fun σ H Q Q' i ⟨W, Y, Fm, δ, t, f, e, k⟩ => ⟨W, Y, Fm, δ, t, f, e, fun x H' ed r => i _ _ (k x H' ed r)⟩
theorem Kf.mono {K : PySem.W.Frag} {sh : Nat → Sh} {Wx : WX} {W : Addr → Prop} {Y : List Addr} {Fm : Nat → List Addr} {σ : L2.St} {H : Hp} {r : Rs} {Q Q' : VK} (i : ∀ x H', Q x H' → Q' x H') (h : Kf K sh Wx W Y Fm σ H r Q) : Kf K sh Wx W Y Fm σ H r Q' := by
  unfold Kf at h ⊢
  split at h
  · exact h
  · exact fun x H' Fm' f k d => i _ _ (h x H' Fm' f k d)
  · exact h
theorem TF.mono {K : PySem.W.Frag} {sh : Nat → Sh} {Wx : WX} {f : Dl → Rs} : MonoE (TF K sh Wx f) := fun σ H Q Q' i ⟨W, Y, Fm, δ, f, k⟩ => ⟨W, Y, Fm, δ, f, k.mono i⟩
theorem TO.mono {K : PySem.W.Frag} {sh : Nat → Sh} {Wx : WX} : ∀ {o : Opd}, MonoE (TO K sh Wx o)
  | .var i => fun σ H Q Q' i ⟨v, e, h⟩ => ⟨v, e, i _ _ h⟩
  | .val f => TF.mono
theorem TQs.mono {K : PySem.W.Frag} {sh : Nat → Sh} {l : List (Md × Qf)} : ∀ t ∈ l.map fun p => TQ K sh p.1 p.2, MonoE t := fun t ht => by
  obtain ⟨p, _, rfl⟩ := List.mem_map.mp ht
  exact TQ.mono
theorem TOs.mono {K : PySem.W.Frag} {sh : Nat → Sh} {Wx : WX} {os : List Opd} : ∀ t ∈ os.map (TO K sh Wx), MonoE t := fun t ht => by
  obtain ⟨p, _, rfl⟩ := List.mem_map.mp ht
  exact TO.mono
theorem PEs.len {X : Cx} : ∀ {es : List Expr} {ts : List TE}, PEs X es ts → ts.length = es.length
  | _, _, .nil => rfl
  | _, _, .cons _ r _ => by rw [List.length_cons, List.length_cons, PEs.len r]
section
variable {K : PySem.W.Frag} {sh : Nat → Sh} {Wx : WX} {W : Addr → Prop} {Y : List Addr} {Fm Fm1 : Nat → List Addr} {H H' H1 : Hp} {σ : L2.St} {δ : Dl} {Q : VK}
end
/-- as opn, where no operand raises -/
def opnc (op : Op) (os : List Opd) : Dl → Rs := fun δ => match runs os δ with
  | some (.ok l, δ') => match res l δ' with
    | none => none
    | some ts => match op ts with
      | none => none
      | some c => some (.ok c, δ')
  | _ => none
section
variable {X : Cx} {K : PySem.W.Frag} {sh : Nat → Sh} {Wx : WX} {e : Expr} {es : List Expr} {op : Op} {l : List (Md × Qf)} {os : List Opd}
end
/-! ### methods of built-in types; parts -/
section
variable {X : Cx} {K : PySem.W.Frag} {a lo hi : Expr} {pos p2 : Pos}
variable {r : V → Option Int → Option Int → Hp → VK → Prop}
/-- the parts lo, hi behind the thing -/
def partsT (b1 b2 : Bool) : List T → Option (T × Option Int × Option Int)
  | [a, .int i, .int j] => if b1 && b2 then some (a, some i, some j) else none
  | [a, .int i] => if b1 && !b2 then some (a, some i, none) else if !b1 && b2 then some (a, none, some i) else none
  | _ => none
def cutT {α : Type} (ts : List α) (lo hi : Option Int) : List α := (ts.drop (HT.sIx ts.length 0 lo)).take (HT.sIx ts.length ts.length hi - HT.sIx ts.length 0 lo)
def slS (b1 b2 : Bool) : Op := fun ts => match partsT b1 b2 ts with
  | some (.str z, lo, hi) => if z.length ≤ sizeLine then some (.str (cutS z lo hi)) else none
  | _ => none
def slL (b1 b2 : Bool) : Op := fun ts => match partsT b1 b2 ts with
  | some (.lst us, lo, hi) => some (.lst (cutT us lo hi))
  | some (.clst us, lo, hi) => some (.lst (cutT us lo hi))
  | _ => none
end
end NQ
namespace NQ
open PySem L2
/-! ### texts -/
section
variable {K : PySem.W.Frag} {G : Addr → Prop} {H : Hp}
def strsT : List T → Option (List Str)
  | [] => some []
  | .str s :: r => match strsT r with | some l => some (s :: l) | none => none
  | _ :: _ => none
theorem strs_map (l : List Str) : strsT (l.map T.str) = some l := by
  induction l with
  | nil => rfl
  | cons s r ih => show (match strsT (r.map T.str) with | some l => some (s :: l) | none => none) = _; rw [ih]
theorem RpL.strs {l : List Str} {vs : List V} (h : RpL K H vs (l.map T.str)) : vs = l.map V.str ∧ ∀ s ∈ l, PyData.strOk s = true := by
  induction l generalizing vs with
  | nil => cases h; exact ⟨rfl, fun _ z => absurd z List.not_mem_nil⟩
  | cons s r ih =>
    cases h with
    | cons h1 h2 =>
      obtain ⟨rfl, k⟩ := h1.str
      obtain ⟨rfl, k2⟩ := ih h2
      refine ⟨rfl, fun x hx => ?_⟩
      rcases List.mem_cons.mp hx with rfl | hx
      · exact k
      · exact k2 x hx
def joinT : Op
  | [.str a, c] => match seqT c with
    | some ts => match strsT ts with
      | some l => if (l.map (·.length)).sum + l.length * a.length ≤ 16777216 then some (.str (Txt.join a l)) else none
      | none => none
    | none => none
  | _ => none
def splitT : Op
  | [.str a, .str b] => if (b.length == 0) = false ∧ a.length + 2 ≤ sizeLine then some (.lst ((Txt.split a b).map T.str)) else none
  | _ => none
def wordsT : Op
  | [.str a] => if a.length + 2 ≤ sizeLine then some (.lst ((Txt.words a).map T.str)) else none
  | _ => none
def stripT : Op
  | [.str a] => if a.length ≤ sizeLine then some (.str (Txt.strip a)) else none
  | _ => none
/-! ### lists: + and * -/
def mulL : Op
  | [.lst xs, .int n] => if -(2 ^ 63) ≤ n ∧ n < 2 ^ 63 ∧ xs.length * n.toNat ≤ sizeLine then some (.lst (List.replicate n.toNat xs).flatten) else none
  | _ => none
end
/-! ### truth -/
def truT : T → Option Bool
  | .non => some false
  | .bl b => some b
  | .int i => some (i != 0)
  | .str z => if z.length ≤ sizeLine then some ((z.length : Int) != 0) else none
  | .lst ts => some (!ts.isEmpty)
  | .tup ts => some (!ts.isEmpty)
  | .ctup ts => some (!ts.isEmpty)
  | .dic ks ts => if ks.length = ts.length then some (!ts.isEmpty) else none
  | .dit ks ts => if ks.length = ts.length then some (!ts.isEmpty) else none
  | _ => none
def TruX (K : PySem.W.Frag) (x : V) (H : Hp) (k : Bool) : Prop := TruV K x H k ∨ ∃ p, x = .ref p ∧ ((∃ kvs, Rd H p (.dT kvs) ∧ k = !kvs.isEmpty) ∨ ∃ kvs, Rd H p (.dK kvs) ∧ k = !kvs.isEmpty)
theorem empty_len {α β : Type} {xs : List α} {ys : List β} (h : xs.length = ys.length) : (!xs.isEmpty) = !ys.isEmpty := by
  cases xs <;> cases ys <;> first | rfl | cases h
theorem empty_zip {α β γ : Type} {xs : List α} {ys : List β} {zs : List γ} (h : xs.length = ys.length) (h2 : ys.length = zs.length) : (!(xs.zip ys).isEmpty) = !zs.isEmpty := by
  cases xs <;> cases ys <;> cases zs <;> first | rfl | (exfalso; simp only [List.length_cons, List.length_nil] at h h2; omega)
theorem Rp.tru {K : PySem.W.Frag} {H : Hp} {x : V} {t : T} {b : Bool} (h : Rp K H x t) (e : truT t = some b) : TruX K x H b := by
  cases t with
  | non => cases e; cases h.non; exact .inl rfl
  | bl c => cases e; cases h.bl; exact .inl rfl
  | int i => cases e; cases h.int; exact .inl rfl
  | str z =>
    simp only [truT] at e
    split at e
    · rename_i hz
      cases e
      obtain ⟨rfl, _⟩ := h.str
      exact .inl ⟨hz, rfl⟩
    · cases e
  | lst ts =>
    cases e
    obtain ⟨a, vs, rfl, h1, h2⟩ := h.lst
    exact .inl (.inl ⟨vs, h1, (empty_len h2.length).symm⟩)
  | tup ts =>
    cases e
    obtain ⟨a, vs, rfl, h1, h2⟩ := h.tup
    exact .inl (.inr (.inl ⟨vs, h1, (empty_len h2.length).symm⟩))
  | ctup ts =>
    cases e
    obtain ⟨a, vs, rfl, h1, h2, _⟩ := h.ctup
    exact .inl (.inr (.inl ⟨vs, h1, (empty_len h2.length).symm⟩))
  | clst ts => cases e
  | dic ks ts =>
    simp only [truT] at e
    split at e
    · cases e
      obtain ⟨a, vs, rfl, l, h1, h2⟩ := h.dic
      exact .inr ⟨a, rfl, .inr ⟨_, h1, (empty_zip l h2.length).symm⟩⟩
    · cases e
  | dit ks ts =>
    simp only [truT] at e
    split at e
    · cases e
      obtain ⟨a, vs, rfl, l, h1, h2⟩ := h.dit
      exact .inr ⟨a, rfl, .inl ⟨_, h1, (empty_zip l h2.length).symm⟩⟩
    · cases e
  | ins c fs ts => cases e
  | gl n => cases e
  | ty n => cases e
/-! ### tests -/
abbrev Qb := Dl → Option Bool
abbrev Rb := Option (Except Xn Bool × Dl)
def qB (f : Qb) : Dl → Rb := fun δ => match f δ with
  | none => none
  | some b => some (.ok b, δ)
def asB (f : Qf) : Qb := fun δ => match f δ with
  | some (.bl b) => some b
  | _ => none
def asTru (f : Qf) : Qb := fun δ => match f δ with
  | some t => truT t
  | none => none
def asBE (f : Dl → Rs) : Dl → Rb := fun δ => match f δ with
  | some (.ok (.bl b), δ') => some (.ok b, δ')
  | some (.error e, δ') => some (.error e, δ')
  | _ => none
def asTruE (f : Dl → Rs) : Dl → Rb := fun δ => match f δ with
  | none => none
  | some (.error e, δ') => some (.error e, δ')
  | some (.ok t, δ') => match truT t with
    | some b => some (.ok b, δ')
    | none => none
def notQ (f : Qb) : Qb := fun δ => match f δ with
  | some b => some (!b)
  | none => none
def andQ (f g : Qb) : Qb := fun δ => match f δ with
  | some true => g δ
  | some false => some false
  | none => none
def orQ (f g : Qb) : Qb := fun δ => match f δ with
  | some true => some true
  | some false => g δ
  | none => none
def notE (f : Dl → Rb) : Dl → Rb := fun δ => match f δ with
  | none => none
  | some (.error e, δ') => some (.error e, δ')
  | some (.ok b, δ') => some (.ok (!b), δ')
def andE (f g : Dl → Rb) : Dl → Rb := fun δ => match f δ with
  | none => none
  | some (.error e, δ') => some (.error e, δ')
  | some (.ok true, δ') => g δ'
  | some (.ok false, δ') => some (.ok false, δ')
def orE (f g : Dl → Rb) : Dl → Rb := fun δ => match f δ with
  | none => none
  | some (.error e, δ') => some (.error e, δ')
  | some (.ok true, δ') => some (.ok true, δ')
  | some (.ok false, δ') => g δ'
section
variable {X : Cx} {K : PySem.W.Frag} {sh : Nat → Sh} {Wx : WX} {W : Addr → Prop} {Y : List Addr} {Fm Fm1 : Nat → List Addr} {H H1 : Hp} {e a b : Expr} {rest : List Expr} {pos : Pos} {es : List Expr} {op : Op} {l : List (Md × Qf)} {os : List Opd} {σ : L2.St}
end
end NQ
namespace NQ
open PySem L2
/-! ### statements -/
inductive Fl where
  | nx | brk | cont | ret (t : T) | exc (e : Xn)
abbrev Ss := Option (Fl × Dl)
abbrev Sf := Dl → Ss
/-- the slots' shapes, the shape of what is returned, the slots that keep their value -/
structure Cf where
  sh : Nat → Sh
  rs : Sh
  pr : Nat → Bool
def Kp (c : Cf) (σ σ' : L2.St) : Prop := ∀ i, c.pr i = true → σ'[i]? = σ[i]?
theorem Kp.refl {c : Cf} {σ : L2.St} : Kp c σ σ := fun _ _ => rfl
theorem Kp.tr {c : Cf} {σ σ1 σ2 : L2.St} (h : Kp c σ σ1) (h2 : Kp c σ1 σ2) : Kp c σ σ2 := fun i p => (h2 i p).trans (h i p)
theorem Kp.set {c : Cf} {σ : L2.St} {i : Nat} {v : Option V} (h : c.pr i = false) : Kp c σ (σ.set i v) := fun j p => by
  rw [List.getElem?_set_ne (fun z => by rw [z, p] at h; cases h)]
section
variable (K : PySem.W.Frag) (c : Cf)
def Kx (W : Addr → Prop) (Y : List Addr) (Fm : Nat → List Addr) (σ : L2.St) (H : Hp) (δ' : Dl) (N : L2.St → Hp → Prop) : Prop :=
  ∀ σ' H' Fm', Kp c σ σ' → Fr K c.sh W Y Fm' H' σ' δ' → Xt (Om Fm) (Om Fm') H H' → N σ' H'
def Kr (W : Addr → Prop) (Y : List Addr) (Fm : Nat → List Addr) (σ : L2.St) (H : Hp) (t : T) (δ' : Dl) (R : VK) : Prop :=
  ∀ x σ' H' Fm' F, Kp c σ σ' → Fr K c.sh W (F ++ Y) Fm' H' σ' δ' → Ow K (Gw (F ++ Y) Fm' W) H' c.rs F x t → Xt (Om Fm) (fun a => a ∈ F ∨ Om Fm' a) H H' → R x H'
def Kes (Wx : WX) (W : Addr → Prop) (Y : List Addr) (Fm : Nat → List Addr) (σ : L2.St) (H : Hp) (e : Xn) (δ' : Dl) : Prop :=
  ∀ σ' d v H' Fm', Kp c σ σ' → Fr K c.sh W Y Fm' H' σ' δ' → Xt (Om Fm) (Om Fm') H H' → (¬ Gw Y Fm' W d ∧ H' d = some (.xd [(e.fld, v)])) → Df K (Gw Y Fm' W) H' v e.val → Wx (.ref (He.ga K e.cls)) (some d) σ' H'
def Ks (Wx : WX) (W : Addr → Prop) (Y : List Addr) (Fm : Nat → List Addr) (σ : L2.St) (H : Hp) (r : Ss) (D : Ends) : Prop := match r with
  | none => False
  | some (.nx, δ') => Kx K c W Y Fm σ H δ' D.nx
  | some (.brk, δ') => Kx K c W Y Fm σ H δ' D.bk
  | some (.cont, δ') => Kx K c W Y Fm σ H δ' D.ct
  | some (.ret t, δ') => Kr K c W Y Fm σ H t δ' D.rt
  | some (.exc e, δ') => Kes K c Wx W Y Fm σ H e δ'
def SF (Wx : WX) (F : Sf) : TS := fun D σ H => ∃ W Y Fm δ, Fr K c.sh W Y Fm H σ δ ∧ Ks K c Wx W Y Fm σ H (F δ) D
end
def sNext : Sf := fun δ => some (.nx, δ)
def sBrk : Sf := fun δ => some (.brk, δ)
def sCont : Sf := fun δ => some (.cont, δ)
def sSeq (F G : Sf) : Sf := fun δ => match F δ with
  | some (.nx, δ') => G δ'
  | r => r
def sSet (i : Nat) (f : Dl → Rs) : Sf := fun δ => match f δ with
  | none => none
  | some (.error e, δ') => some (.exc e, δ')
  | some (.ok t, δ') => some (.nx, δ'.set i (some t))
def sDrop (f : Dl → Rs) : Sf := fun δ => match f δ with
  | none => none
  | some (.error e, δ') => some (.exc e, δ')
  | some (.ok _, δ') => some (.nx, δ')
def sRet (f : Dl → Rs) : Sf := fun δ => match f δ with
  | none => none
  | some (.error e, δ') => some (.exc e, δ')
  | some (.ok t, δ') => some (.ret t, δ')
def sRetV (i : Nat) : Sf := fun δ => match dAt δ i with
  | none => none
  | some t => some (.ret t, δ.set i none)
def sRetN : Sf := fun δ => some (.ret .non, δ)
def sIf (f : Dl → Rb) (F G : Sf) : Sf := fun δ => match f δ with
  | none => none
  | some (.error e, δ') => some (.exc e, δ')
  | some (.ok true, δ') => F δ'
  | some (.ok false, δ') => G δ'
section
variable {K : PySem.W.Frag} {c : Cf} {Wx : WX} {W : Addr → Prop} {Y : List Addr} {Fm Fm1 : Nat → List Addr} {σ σ1 : L2.St} {H H1 : Hp} {δ δ' : Dl}
theorem Kes.ke {e : Xn} (h : Kes K c Wx W Y Fm σ H e δ') : Ke K c.sh Wx W Y Fm σ H e δ' := fun d v H' Fm' f x q1 q2 => h σ d v H' Fm' .refl f x q1 q2
/-- frozen outcomes are outcomes of the shape fz -/
theorem Kr.fz {R : VK} {t : T} (hr : c.rs = .fz) (h : Kr K c W Y Fm σ H t δ' R) : ∀ x H' Fm', Fr K c.sh W Y Fm' H' σ δ' → Xt (Om Fm) (Om Fm') H H' → Df K (Gw Y Fm' W) H' x t → R x H' := fun x H' Fm' f xt d =>
  h x σ H' Fm' [] .refl f (by rw [hr]; exact .fz d) ⟨xt.1, fun a z => z.elim (fun q => absurd q List.not_mem_nil) fun q => xt.2 a q⟩
end
section
variable {X : Cx} {K : PySem.W.Frag} {c : Cf} {Wx : WX} {st : Stmt} {rest : List Stmt} {F G : Sf} {e : Expr} {f : Dl → Rs} {pos : Pos}
def sSetN (i : Nat) (f : Dl → Rs) : Sf := fun δ => match f δ with
  | none => none
  | some (.error e, δ') => some (.exc e, δ')
  | some (.ok t, δ') => if i < δ'.length then some (.nx, δ'.set i (some t)) else none
/-! ### expressions that choose -/
def ifE (g : Dl → Rb) (f1 f2 : Dl → Rs) : Dl → Rs := fun δ => match g δ with
  | none => none
  | some (.error e, δ') => some (.error e, δ')
  | some (.ok true, δ') => f1 δ'
  | some (.ok false, δ') => f2 δ'
def ifQ (g : Qb) (f1 f2 : Qf) : Qf := fun δ => match g δ with
  | none => none
  | some true => f1 δ
  | some false => f2 δ
variable {sh : Nat → Sh} {t a b : Expr}
/-! ### slots and written things -/
def eV (i : Nat) : Qf := fun δ => dAt δ i
def eC (t : T) : Qf := fun _ => some t
end
end NQ
namespace NQ
open PySem L2
/-! ### defs as functions over trees -/
inductive Ou where
  | ret (t : T) | exc (e : Xn)
abbrev Fo := Option (Ou × List T)
def Sh.isO : Sh → Bool
  | .fz => false
  | .vw => false
  | .xc .. => false
  | _ => true
mutual
def Sh.beq : Sh → Sh → Bool
  | .fz, .fz => true
  | .vw, .vw => true
  | .all a, .all b => Sh.beq a b
  | .opt a, .opt b => Sh.beq a b
  | .row a, .row b => beqL a b
  | .flds a, .flds b => beqF a b
  | _, _ => false
def beqL : List Sh → List Sh → Bool
  | [], [] => true
  | a :: r, b :: s => Sh.beq a b && beqL r s
  | _, _ => false
def beqF : List (Str × Sh) → List (Str × Sh) → Bool
  | [], [] => true
  | (x, a) :: r, (y, b) :: s => decide (x = y) && (Sh.beq a b && beqF r s)
  | _, _ => false
end
mutual
theorem Sh.beq_eq : ∀ {a b : Sh}, Sh.beq a b = true → a = b
  | .fz, b, h => by cases b <;> first | rfl | (simp [Sh.beq] at h)
  | .vw, b, h => by cases b <;> first | rfl | (simp [Sh.beq] at h)
  | .xc .., b, h => by cases b <;> (simp [Sh.beq] at h)
  | .all a, b, h => by cases b <;> first | (simp only [Sh.beq] at h; rw [Sh.beq_eq h]) | (simp [Sh.beq] at h)
  | .opt a, b, h => by cases b <;> first | (simp only [Sh.beq] at h; rw [Sh.beq_eq h]) | (simp [Sh.beq] at h)
  | .row a, b, h => by cases b <;> first | (simp only [Sh.beq] at h; rw [beqL_eq h]) | (simp [Sh.beq] at h)
  | .flds a, b, h => by cases b <;> first | (simp only [Sh.beq] at h; rw [beqF_eq h]) | (simp [Sh.beq] at h)
theorem beqL_eq : ∀ {a b : List Sh}, beqL a b = true → a = b
  | [], b, h => by cases b <;> first | rfl | (simp [beqL] at h)
  | a :: r, b, h => by
    cases b with
    | nil => simp [beqL] at h
    | cons b s =>
      simp only [beqL, Bool.and_eq_true] at h
      rw [Sh.beq_eq h.1, beqL_eq h.2]
theorem beqF_eq : ∀ {a b : List (Str × Sh)}, beqF a b = true → a = b
  | [], b, h => by cases b <;> first | rfl | (simp [beqF] at h)
  | (x, a) :: r, b, h => by
    cases b with
    | nil => simp [beqF] at h
    | cons b s =>
      obtain ⟨y, b⟩ := b
      simp only [beqF, Bool.and_eq_true, decide_eq_true_eq] at h
      rw [h.1, Sh.beq_eq h.2.1, beqF_eq h.2.2]
end
def pl : List Sh → Nat → Sh
  | [], _ => .fz
  | s :: _, 0 => s
  | _ :: r, i + 1 => pl r i
section
variable (K : PySem.W.Frag) (ps : List Sh) (rs : Sh)
end
/-- the parameters of one's own as they stand at the end -/
def fin : List Sh → List T → Dl → Option (List T)
  | s :: ss, t :: ts, d :: δ => match fin ss ts δ with
    | none => none
    | some l => if s.isO then (match d with | some u => some (u :: l) | none => none) else some (t :: l)
  | [], [], _ => some []
  | _, _, _ => none
def Sh.nilOk : Sh → Bool
  | .fz => true
  | .opt _ => true
  | _ => false
def fnT (ps : List Sh) (m : Nat) (rs : Sh) (b : Sf) : List T → Fo := fun ts => match b (ts.map some ++ List.replicate m none) with
  | some (.nx, δ) => if rs.nilOk then (match fin ps ts δ with | some l => some (.ret .non, l) | none => none) else none
  | some (.ret t, δ) => match fin ps ts δ with | some l => some (.ret t, l) | none => none
  | some (.exc e, δ) => match fin ps ts δ with | some l => some (.exc e, l) | none => none
  | _ => none
end NQ
namespace NQ
open PySem L2
/-! ### calls -/
def skO : List Opd → List (Option Nat)
  | [] => []
  | .var i :: r => some i :: skO r
  | .val _ :: r => none :: skO r
def owns : List Sh → List (Option Nat) → List Nat
  | s :: ss, some i :: k => if s.isO then i :: owns ss k else owns ss k
  | _ :: ss, none :: k => owns ss k
  | _, _ => []
def wb : List Sh → List (Option Nat) → List T → Dl → Dl
  | s :: ss, some i :: k, t :: ts, δ => wb ss k ts (if s.isO then δ.set i (some t) else δ)
  | _ :: ss, none :: k, _ :: ts, δ => wb ss k ts δ
  | _, _, _, δ => δ
theorem ArgR.len {K : PySem.W.Frag} {G : Addr → Prop} {H : Hp} {σ : L2.St} : ∀ {l : List (Nat ⊕ T)} {xs : List V}, ArgR K G H σ l xs → xs.length = l.length
  | _, _, .nil => rfl
  | _, _, .var _ r => by rw [List.length_cons, List.length_cons, ArgR.len r]
  | _, _, .val _ r => by rw [List.length_cons, List.length_cons, ArgR.len r]
end NQ
namespace NQ
open PySem L2
section
variable {K : PySem.W.Frag} {sh : Nat → Sh} {W : Addr → Prop} {Y F : List Addr} {Fm Fm' : Nat → List Addr} {H H' : Hp} {σ : L2.St} {δ : Dl} {ps : List Sh} {sk : List (Option Nat)} {xs : List V} {ts ts' : List T} {l : List (Nat ⊕ T)}
def Wc (ps : List Sh) (sk : List (Option Nat)) (W : Addr → Prop) (Y : List Addr) (Fm : Nat → List Addr) : Addr → Prop := fun a => a ∈ Y ∨ W a ∨ ∃ i, i ∉ owns ps sk ∧ a ∈ Fm i
end
/-! ### a call of a def -/
def fCall (ps : List Sh) (F : List T → Fo) (os : List Opd) : Dl → Rs := fun δ => match runs os δ with
  | none => none
  | some (.error e, δ') => some (.error e, δ')
  | some (.ok l, δ') => match res l δ' with
    | none => none
    | some ts => match F ts with
      | none => none
      | some (.ret t, ts') => if ts'.length = ps.length then some (.ok t, wb ps (skO os) ts' δ') else none
      | some (.exc e, ts') => if ts'.length = ps.length then some (.error e, wb ps (skO os) ts' δ') else none
section
variable {X : Cx} {K : PySem.W.Frag} {sh : Nat → Sh} {Wx : WX} {ps : List Sh} {rs : Sh} {F : List T → Fo} {os : List Opd} {σ : L2.St} {H : Hp} {Q : VK}
variable {k : Nat} {x : Str} {e : Expr} {es : List Expr} {params : List Str} {p pos : Pos}
end
end NQ
namespace NQ
open PySem L2
/-! ### targets -/
abbrev Gf := T → Dl → Option Dl
abbrev Gfs := List T → Dl → Option Dl
/-- only the slots ns may have changed -/
def On (ns : List Nat) (σ σ' : L2.St) : Prop := σ'.length = σ.length ∧ ∀ i, i ∉ ns → σ'[i]? = σ[i]?
theorem On.refl {ns : List Nat} {σ : L2.St} : On ns σ σ := ⟨rfl, fun _ _ => rfl⟩
theorem On.set {σ : L2.St} {i : Nat} {v : Option V} : On [i] σ (σ.set i v) := ⟨by simp, fun j h => by rw [List.getElem?_set_ne (fun z => h (by rw [z]; exact List.mem_singleton.mpr rfl))]⟩
theorem On.tr {ns ms : List Nat} {σ σ1 σ2 : L2.St} (h : On ns σ σ1) (h2 : On ms σ1 σ2) : On (ns ++ ms) σ σ2 := ⟨h2.1.trans h.1, fun i n => (h2.2 i fun z => n (List.mem_append_right _ z)).trans (h.2 i fun z => n (List.mem_append_left _ z))⟩
def gN (i : Nat) : Gf := fun t δ => some (δ.set i (some t))
def gT (gs : Gfs) : Gf := fun t δ => match seqT t with
  | some ts => gs ts δ
  | none => none
def gNl : Gfs
  | [], δ => some δ
  | _ :: _, _ => none
def gCs (g : Gf) (gs : Gfs) : Gfs
  | t :: ts, δ => match g t δ with
    | some δ' => gs ts δ'
    | none => none
  | [], _ => none
section
variable {X : Cx} {K : PySem.W.Frag} {c : Cf} {x : Str} {pos : Pos} {e : Expr} {es : List Expr}
end
/-! ### what is walked over -/
abbrev Il := Dl → Option (Except Xn (List T) × Dl)
section
variable {K : PySem.W.Frag} {G : Addr → Prop} {H : Hp} {a : Addr} {vs : List V} {ts : List T}
def enT (ts : List T) : List T := ts.zipIdx.map fun p => T.tup [.int (p.2 : Nat), p.1]
end
section
variable {X : Cx} {K : PySem.W.Frag} {sh : Nat → Sh} {Wx : WX} {tg e : Expr} {es : List Expr} {pos p : Pos}
/-- the items of a thing -/
def itT : T → Option (List T)
  | .str z => some ((NL.sgn z).map T.str)
  | t => seqT t
def itE (f : Dl → Rs) : Il := fun δ => match f δ with
  | none => none
  | some (.error e, δ') => some (.error e, δ')
  | some (.ok t, δ') => match itT t with
    | some ts => some (.ok ts, δ')
    | none => none
theorem Df.lst {G : Addr → Prop} {H : Hp} {x : V} {ts : List T} (h : Df K G H x (.lst ts)) : ∃ a vs, x = .ref a ∧ ¬ G a ∧ Rd H a (.lst vs) ∧ DfL K G H vs ts := by
  cases h with
  | sc h => exact h.elim
  | nd n c r => exact ⟨_, _, rfl, n, c, r⟩
theorem Df.tup {G : Addr → Prop} {H : Hp} {x : V} {ts : List T} (h : Df K G H x (.tup ts)) : ∃ a vs, x = .ref a ∧ ¬ G a ∧ H a = some (.tup vs) ∧ DfL K G H vs ts := by
  cases h with
  | sc h => exact h.elim
  | nd n c r => exact ⟨_, _, rfl, n, c, r⟩
/-! ### range, enumerate -/
def itR1 (f : Dl → Rs) : Il := fun δ => match f δ with
  | some (.ok (.int j), δ') => if -(2 ^ 62) ≤ j ∧ j < 2 ^ 62 then some (.ok ((List.range j.toNat).map fun i => T.int (0 + (i : Nat))), δ') else none
  | some (.error e, δ') => some (.error e, δ')
  | _ => none
def itR2 (o1 o2 : Dl → Rs) : Il := fun δ => match o1 δ with
  | some (.ok (.int i), δ1) => match o2 δ1 with
    | some (.ok (.int j), δ') => if -(2 ^ 62) ≤ i ∧ i < 2 ^ 62 ∧ -(2 ^ 62) ≤ j ∧ j < 2 ^ 62 then some (.ok ((List.range (j - i).toNat).map fun n => T.int (i + (n : Nat))), δ') else none
    | some (.error e, δ') => some (.error e, δ')
    | _ => none
  | some (.error e, δ') => some (.error e, δ')
  | _ => none
def itEn (f : Dl → Rs) : Il := fun δ => match f δ with
  | some (.ok (.lst ts), δ') => some (.ok (enT ts), δ')
  | some (.error e, δ') => some (.error e, δ')
  | _ => none
/-! ### for -/
def forM : List T → Gf → Sf → Sf
  | [], _, _, δ => some (.nx, δ)
  | t :: r, g, b, δ => match g t δ with
    | none => none
    | some δ1 => match b δ1 with
      | none => none
      | some (.nx, δ2) => forM r g b δ2
      | some (.cont, δ2) => forM r g b δ2
      | some (.brk, δ2) => some (.nx, δ2)
      | some (.ret t, δ2) => some (.ret t, δ2)
      | some (.exc e, δ2) => some (.exc e, δ2)
def sFor (its : Il) (g : Gf) (b : Sf) : Sf := fun δ => match its δ with
  | none => none
  | some (.error e, δ') => some (.exc e, δ')
  | some (.ok ts, δ') => forM ts g b δ'
variable {c : Cf} {body : List Stmt}
/-! ### while -/
end
end NQ
namespace NQ
open PySem L2
/-! ### comprehensions -/
def wipeD (δ : Dl) : List Nat → Dl
  | [] => δ
  | v :: vs => (wipeD δ vs).set v none
theorem wipeD_len {δ : Dl} : ∀ {vs : List Nat}, (wipeD δ vs).length = δ.length
  | [] => rfl
  | v :: vs => by unfold wipeD; rw [List.length_set, wipeD_len]
theorem wipeD_out {δ : Dl} {i : Nat} : ∀ {vs : List Nat}, i ∉ vs → dAt (wipeD δ vs) i = dAt δ i
  | [], _ => rfl
  | v :: vs, h => by
    unfold wipeD
    rw [dAt_set_ne (fun z => h (by rw [z]; exact List.mem_cons_self ..))]
    exact wipeD_out fun z => h (List.mem_cons_of_mem _ z)
theorem wipeD_in {δ : Dl} {i : Nat} : ∀ {vs : List Nat}, i ∈ vs → dAt (wipeD δ vs) i = none
  | v :: vs, h => by
    unfold wipeD
    by_cases z : i = v
    · subst z
      cases q : dAt ((wipeD δ vs).set i none) i with
      | none => rfl
      | some t => exact absurd (dAt_set_eq q) (by simp)
    · rw [dAt_set_ne z]
      exact wipeD_in ((List.mem_cons.mp h).elim (fun w => absurd w z) id)
theorem wipe_out {σ : L2.St} {i : Nat} : ∀ {vs : List Nat}, i ∉ vs → (wipe σ vs)[i]? = σ[i]?
  | [], _ => rfl
  | v :: vs, h => by
    unfold wipe
    rw [List.getElem?_set_ne (fun z => h (by rw [← z]; exact List.mem_cons_self ..))]
    exact wipe_out fun z => h (List.mem_cons_of_mem _ z)
theorem wipe_in {σ : L2.St} {i : Nat} : ∀ {vs : List Nat}, i ∈ vs → i < σ.length → (wipe σ vs)[i]? = some none
  | v :: vs, h, hl => by
    unfold wipe
    by_cases z : v = i
    · subst z
      rw [List.getElem?_set_self (by rw [wipe_length]; exact hl)]
    · rw [List.getElem?_set_ne z]
      exact wipe_in ((List.mem_cons.mp h).elim (fun w => absurd w.symm z) id) hl
theorem On.wipe {ns vs : List Nat} {σ σ' : L2.St} (h : On ns σ σ') (hs : ∀ i ∈ ns, i ∈ vs) : L2.wipe σ' vs = L2.wipe σ vs := by
  refine List.ext_getElem? fun i => ?_
  by_cases hi : i ∈ vs
  · by_cases hl : i < σ.length
    · rw [wipe_in hi hl, wipe_in hi (by rw [h.1]; exact hl)]
    · rw [List.getElem?_eq_none_iff.mpr (by rw [wipe_length, h.1]; omega), List.getElem?_eq_none_iff.mpr (by rw [wipe_length]; omega)]
  · rw [wipe_out hi, wipe_out hi]
    exact h.2 i fun z => hi (hs i z)
section
variable {K : PySem.W.Frag} {sh : Nat → Sh} {W : Addr → Prop} {Y : List Addr} {Fm : Nat → List Addr} {H H' : Hp} {σ : L2.St} {δ : Dl} {vs : List Nat}
theorem Fr.wipe (f : Fr K sh W Y Fm H σ δ) (hv : ∀ i ∈ vs, sh i = .fz) : Fr K sh W Y Fm H (L2.wipe σ vs) (wipeD δ vs) := by
  refine ⟨fun i t e => ?_, fun i e => ?_, f.nd, f.dj, f.dw, f.wl, by rw [wipeD_len, wipe_length]; exact f.len, f.xn, f.xd, f.xw, f.xl⟩
  · by_cases hi : i ∈ vs
    · rw [wipeD_in hi] at e; cases e
    · rw [wipeD_out hi] at e
      obtain ⟨v, h1, h2⟩ := f.rel i t e
      exact ⟨v, by rw [wipe_out hi]; exact h1, h2⟩
  · by_cases hi : i ∈ vs
    · exact f.fz0 (hv i hi)
    · rw [wipeD_out hi] at e
      exact f.un i e
end
/-- the items that a comprehension makes -/
def lcL (g : Gf) (cnd : Dl → Rb) (el : Dl → Rs) (vs : List Nat) : List T → Dl → Option (List T × Dl)
  | [], δ => some ([], δ)
  | t :: r, δ => match g t δ with
    | none => none
    | some δ1 => match cnd δ1 with
      | some (.ok true, δ2) => match el δ2 with
        | some (.ok u, δ3) => match lcL g cnd el vs r (wipeD δ3 vs) with
          | some (us, δ4) => some (u :: us, δ4)
          | none => none
        | _ => none
      | some (.ok false, δ2) => lcL g cnd el vs r (wipeD δ2 vs)
      | _ => none
def lcE (its : Il) (g : Gf) (cnd : Dl → Rb) (el : Dl → Rs) (vs : List Nat) : Dl → Rs := fun δ => match its δ with
  | none => none
  | some (.error e, δ') => some (.error e, δ')
  | some (.ok ts, δ') => if ts.length < sizeLine then (match lcL g cnd el vs ts (wipeD δ' vs) with
    | some (us, δ2) => some (.ok (.lst us), δ2)
    | none => none) else none
section
variable {X : Cx} {K : PySem.W.Frag} {c : Cf} {Wx : WX} {its : Il} {g : Gf} {cnd : Dl → Rb} {el : Dl → Rs} {vs ns : List Nat} {σ : L2.St} {H : Hp} {Q : VK}
end
end NQ
namespace NQ
open PySem L2
/-! ### comprehensions as expressions -/
def yesB : Dl → Rb := fun δ => some (.ok true, δ)
section
variable {X : Cx} {K : PySem.W.Frag} {c : Cf} {Wx : WX} {its : Il} {g : Gf} {cnd : Dl → Rb} {el : Dl → Rs} {ns : List Nat} {elt tg iter : Expr} {ifs : List Expr} {scope : Scope} {own : List (Str × Nat)} {pos : Pos}
variable {y : Str} {py spos : Pos}
end
/-! ### places in what is one's own -/
inductive Pt where
  | fld (c f : Str) | ix (k : Int)
def setAt {α : Type} (xs : List α) (k : Int) (x : α) : Option (List α) := match ixN xs.length k with
  | some j => some (xs.set j x)
  | none => none
/-- the part f of an object -/
def fldAt : List Str → List T → Str → Option T
  | f :: fs, t :: ts, g => if f = g then some t else fldAt fs ts g
  | _, _, _ => none
def fldSet : List Str → List T → Str → T → Option (List T)
  | f :: fs, t :: ts, g, u => if f = g then some (u :: ts) else (match fldSet fs ts g u with | some r => some (t :: r) | none => none)
  | _, _, _, _ => none
def getP : T → List Pt → Option T
  | t, [] => some t
  | .ins c fs ts, .fld c' f :: π => if c = c' then (match fldAt fs ts f with | some u => getP u π | none => none) else none
  | .lst ts, .ix k :: π => match atI ts k with
    | some u => getP u π
    | none => none
  | _, _ :: _ => none
def setP : T → List Pt → T → Option T
  | _, [], w => some w
  | .ins c fs ts, .fld c' f :: π, w => if c = c' then (match fldAt fs ts f with
      | some u => match setP u π w with
        | some u' => match fldSet fs ts f u' with
          | some ts' => some (.ins c fs ts')
          | none => none
        | none => none
      | none => none) else none
  | .lst ts, .ix k :: π, w => match atI ts k with
    | some u => match setP u π w with
      | some u' => match setAt ts k u' with
        | some ts' => some (.lst ts')
        | none => none
      | none => none
    | none => none
  | _, _ :: _, _ => none
def shP : Sh → List Pt → Option Sh
  | s, [] => some s
  | .flds d, .fld _ f :: π => shP ((d.lookup f).getD .fz) π
  | .all s, .ix _ :: π => shP s π
  | _, _ :: _ => none
/-- the value at a place -/
def pathV (K : PySem.W.Frag) (H : Hp) : V → List Pt → V → Prop
  | v, [], v' => v = v'
  | v, .fld c f :: π, v' => ∃ a dx fs u, v = .ref a ∧ H a = some (.ins (He.ga K c) dx fs) ∧ fs.lookup f = some u ∧ pathV K H u π v'
  | v, .ix k :: π, v' => ∃ a vs u, v = .ref a ∧ H a = some (.lst vs) ∧ atI vs k = some u ∧ pathV K H u π v'
end NQ
namespace NQ
open PySem L2
section
variable {K : PySem.W.Frag} {G : Addr → Prop} {H : Hp}
/-- one part of several that are one's own -/
theorem OwL.split : ∀ {ss : List Sh} {F : List Addr} {vs : List V} {ts : List T} {j : Nat} {t : T}, OwL K G H ss F vs ts → ts[j]? = some t → F.Nodup → (∀ a ∈ F, G a) → ∃ F1 F2 F3 v s, F = F1 ++ F2 ++ F3 ∧ ss[j]? = some s ∧ vs[j]? = some v ∧ Ow K G H s F2 v t ∧
    ∀ (G' U : Addr → Prop) (H' : Hp) (F2' : List Addr) (t' : T), EdP U H H' → (∀ a, U a → a ∈ F2 ∨ H a = none) → (∀ a, G' a → G a ∨ H a = none) → Ow K G' H' s F2' v t' → OwL K G' H' ss (F1 ++ F2' ++ F3) vs (ts.set j t')
  | _, _, _, _, j, t, .nil, e, _, _ => by simp at e
  | s :: ss, _, v :: vs, u :: ts, 0, t, .cons (F := F) (F' := F') h r, e, nd, hG => by
    simp at e
    subst e
    have nx := List.nodup_append.mp nd
    refine ⟨[], F, F', v, s, by simp, rfl, rfl, h, fun G' U H' F2' t' ed hu hg o => ?_⟩
    rw [List.nil_append]
    refine OwL.cons o (r.step ed (fun a z => (hu a z).imp (fun w => hG a (List.mem_append_left _ w)) id) hg fun a z w => ?_)
    exact (hu a w).elim (fun y => nx.2.2 a y a z rfl) fun y => r.alive a z y
  | s :: ss, _, v :: vs, u :: ts, j + 1, t, .cons (F := F) (F' := F') h r, e, nd, hG => by
    have nx := List.nodup_append.mp nd
    obtain ⟨F1, F2, F3, v', s', eF, h1, h2, h3, h4⟩ := OwL.split (j := j) r (by simpa using e) nx.2.1 fun a z => hG a (List.mem_append_right _ z)
    refine ⟨F ++ F1, F2, F3, v', s', by rw [eF]; simp [List.append_assoc], by simpa using h1, by simpa using h2, h3, fun G' U H' F2' t' ed hu hg o => ?_⟩
    have := OwL.cons (h.step ed (fun a z => (hu a z).imp (fun w => hG a (List.mem_append_right _ (by rw [eF]; exact List.mem_append_left _ (List.mem_append_right _ w)))) id) hg fun a z w => (hu a w).elim (fun y => nx.2.2 a z a (by rw [eF]; exact List.mem_append_left _ (List.mem_append_right _ y)) rfl) fun y => h.alive a z y) (h4 G' U H' F2' t' ed hu hg o)
    rw [List.set_cons_succ]
    have e2 : F ++ F1 ++ F2' ++ F3 = F ++ (F1 ++ F2' ++ F3) := by simp [List.append_assoc]
    rw [e2]
    exact this
theorem fld_idx : ∀ {fs : List Str} {ts : List T} {f : Str} {u : T}, fldAt fs ts f = some u → ∃ j : Nat, fs[j]? = some f ∧ ts[j]? = some u ∧ (∀ w, fldSet fs ts f w = some (ts.set j w)) ∧ ∀ vs : List V, fs.length = vs.length → (fs.zip vs).lookup f = vs[j]?
  | [], _, _, _, e => by simp [fldAt] at e
  | _ :: _, [], _, _, e => by simp [fldAt] at e
  | g :: fs, t :: ts, f, u, e => by
    unfold fldAt at e
    by_cases z : g = f
    · rw [if_pos z] at e
      cases e
      subst z
      refine ⟨0, rfl, rfl, fun w => by unfold fldSet; rw [if_pos rfl]; rfl, fun vs hl => ?_⟩
      cases vs with
      | nil => simp at hl
      | cons v vs => simp [List.lookup]
    · rw [if_neg z] at e
      obtain ⟨j, h1, h2, h3, h4⟩ := fld_idx e
      refine ⟨j + 1, by simpa using h1, by simpa using h2, fun w => by rw [fldSet, if_neg z, h3 w]; rfl, fun vs hl => ?_⟩
      cases vs with
      | nil => simp at hl
      | cons v vs =>
        have : (f == g) = false := by simpa using fun q => z q.symm
        simp only [List.zip_cons_cons, List.lookup, this]
        rw [h4 vs (by simpa using hl)]
        simp
theorem atI_ix {α : Type} {ys : List α} {i : Int} {y : α} (e : atI ys i = some y) : ∃ j : Nat, ixN ys.length i = some j ∧ ys[j]? = some y := by
  unfold atI at e
  cases q : ixN ys.length i with
  | none => rw [q] at e; cases e
  | some j => rw [q] at e; exact ⟨j, rfl, e⟩
/-- what lies at a place of what is one's own, and what it is when that changes -/
theorem focus : ∀ {π : List Pt} {s s' : Sh} {F : List Addr} {v : V} {t t' : T}, Ow K G H s F v t → shP s π = some s' → getP t π = some t' → F.Nodup → (∀ a ∈ F, G a) → ∃ F1 F2 F3 v', F = F1 ++ F2 ++ F3 ∧ Ow K G H s' F2 v' t' ∧ pathV K H v π v' ∧
    ∀ (G' U : Addr → Prop) (H' : Hp) (F2' : List Addr) (w : T), EdP U H H' → (∀ a, U a → a ∈ F2 ∨ H a = none) → (∀ a, G' a → G a ∨ H a = none) → Ow K G' H' s' F2' v' w → ∃ t2, setP t π w = some t2 ∧ Ow K G' H' s (F1 ++ F2' ++ F3) v t2
  | [], s, s', F, v, t, t', o, hs, hg, nd, hG => by
    have es : s = s' := by cases s <;> exact Option.some.inj hs
    have et : t = t' := by cases t <;> exact Option.some.inj hg
    subst es et
    exact ⟨[], F, [], v, by simp, o, rfl, fun G' U H' F2' w ed hu hg o' => ⟨w, by cases t <;> rfl, by simpa using o'⟩⟩
  | .fld c f :: π, .flds d, s', _, _, t, t', .nd (a := a) (F := F) (vs := vs) (ss := ss) ce k r, hs, hg, nd, hG => by
    cases t with
    | ins c' fs ts =>
      unfold getP at hg
      split at hg
      · rename_i ec
        subst ec
        split at hg
        · rename_i u q
          obtain ⟨j, j1, j2, j3, j4⟩ := fld_idx q
          cases k
          have nn := List.nodup_cons.mp nd
          obtain ⟨F1, F2, F3, v1, s1, eF, h1, h2, h3, h4⟩ := r.split (j := j) j2 nn.2 fun b z => hG b (List.mem_cons_of_mem _ z)
          rw [List.getElem?_map, j1] at h1
          cases h1
          have n2 : F2.Nodup := by rw [eF] at nn; exact (List.nodup_append.mp (List.nodup_append.mp nn.2).1).2.1
          obtain ⟨P1, P2, P3, v', eP, q1, q2, q3⟩ := focus (π := π) h3 hs hg n2 fun b z => hG b (List.mem_cons_of_mem _ (by rw [eF]; exact List.mem_append_left _ (List.mem_append_right _ z)))
          obtain ⟨cl, dx, ch⟩ := ce
          refine ⟨a :: (F1 ++ P1), P2, P3 ++ F3, v', by rw [eF, eP]; simp [List.append_assoc], q1, ⟨a, dx, _, v1, rfl, ch, ?_, q2⟩, fun G' U H' F2' w ed hu hg' o' => ?_⟩
          · rw [j4 vs cl]; exact h2
          · have hu2 : ∀ b, U b → b ∈ F2 ∨ H b = none := fun b z => (hu b z).imp (fun y => by rw [eP]; exact List.mem_append_left _ (List.mem_append_right _ y)) id
            obtain ⟨u2, w1, w2⟩ := q3 G' U H' F2' w ed hu hg' o'
            have w3 := h4 G' U H' _ u2 ed hu2 hg' w2
            refine ⟨.ins c' fs (ts.set j u2), ?_, ?_⟩
            · unfold setP
              rw [if_pos rfl]
              simp only [q, w1, j3]
            · have na : ¬ U a := fun z => (hu2 a z).elim (fun y => nn.1 (by rw [eF]; exact List.mem_append_left _ (List.mem_append_right _ y))) fun y => by rw [ch] at y; cases y
              have := Ow.nd (s := .flds d) (t := .ins c' fs (ts.set j u2)) (vs := vs) ⟨cl, dx, ed.1 _ _ na ch⟩ rfl w3
              have e2 : a :: (F1 ++ P1) ++ F2' ++ (P3 ++ F3) = a :: (F1 ++ (P1 ++ F2' ++ P3) ++ F3) := by simp [List.append_assoc]
              rw [e2]
              exact this
        · cases hg
      · cases hg
    | _ => cases hg
  | .ix n :: π, .all s, s', _, _, t, t', .nd (a := a) (F := F) (vs := vs) (ss := ss) ce k r, hs, hg, nd, hG => by
    cases t with
    | lst ts =>
      unfold getP at hg
      split at hg
      · rename_i u q
        cases k
        have nn := List.nodup_cons.mp nd
        have hl : vs.length = ts.length := r.rp.length
        obtain ⟨j, jx, j1⟩ := atI_ix q
        have j2 : atI vs n = vs[j]? := by unfold atI; rw [hl, jx]; rfl
        obtain ⟨F1, F2, F3, v1, s1, eF, h1, h2, h3, h4⟩ := r.split (j := j) j1 nn.2 fun b z => hG b (List.mem_cons_of_mem _ z)
        rw [List.getElem?_map, j1] at h1
        cases h1
        have n2 : F2.Nodup := by rw [eF] at nn; exact (List.nodup_append.mp (List.nodup_append.mp nn.2).1).2.1
        obtain ⟨P1, P2, P3, v', eP, q1, q2, q3⟩ := focus (π := π) h3 hs hg n2 fun b z => hG b (List.mem_cons_of_mem _ (by rw [eF]; exact List.mem_append_left _ (List.mem_append_right _ z)))
        refine ⟨a :: (F1 ++ P1), P2, P3 ++ F3, v', by rw [eF, eP]; simp [List.append_assoc], q1, ⟨a, vs, v1, rfl, ce, by rw [j2]; exact h2, q2⟩, fun G' U H' F2' w ed hu hg' o' => ?_⟩
        have hu2 : ∀ b, U b → b ∈ F2 ∨ H b = none := fun b z => (hu b z).imp (fun y => by rw [eP]; exact List.mem_append_left _ (List.mem_append_right _ y)) id
        obtain ⟨u2, w1, w2⟩ := q3 G' U H' F2' w ed hu hg' o'
        have w3 := h4 G' U H' _ u2 ed hu2 hg' w2
        have hset : setAt ts n u2 = some (ts.set j u2) := by unfold setAt; rw [jx]
        refine ⟨.lst (ts.set j u2), ?_, ?_⟩
        · unfold setP
          simp only [q, w1, hset]
        · have na : ¬ U a := fun z => (hu2 a z).elim (fun y => nn.1 (by rw [eF]; exact List.mem_append_left _ (List.mem_append_right _ y))) fun y => by rw [show H a = some (.lst vs) from ce] at y; cases y
          have := Ow.nd (s := .all s) (t := .lst (ts.set j u2)) (vs := vs) (ss := (ts.set j u2).map fun _ => s) (ed.1 _ _ na ce) rfl (by
            have e3 : ((ts.set j u2).map fun _ => s) = (T.lst ts).kids.map fun _ => s := by
              show _ = ts.map fun _ => s
              rw [List.map_set]
              exact List.ext_getElem? fun i => by
                by_cases z : j = i
                · subst z
                  by_cases lt : j < ts.length
                  · rw [List.getElem?_set_self (by simpa using lt), List.getElem?_map, List.getElem?_eq_getElem lt]; rfl
                  · rw [List.getElem?_eq_none_iff.mpr (by simp; omega), List.getElem?_eq_none_iff.mpr (by simp; omega)]
                · rw [List.getElem?_set_ne z]
            rw [e3]
            exact w3)
          have e2 : a :: (F1 ++ P1) ++ F2' ++ (P3 ++ F3) = a :: (F1 ++ (P1 ++ F2' ++ P3) ++ F3) := by simp [List.append_assoc]
          rw [e2]
          exact this
      · cases hg
    | _ => cases hg
  | .fld c f :: π, .fz, s', _, _, t, t', _, hs, _, _, _ => by cases hs
  | .fld c f :: π, .vw, s', _, _, t, t', _, hs, _, _, _ => by cases hs
  | .fld c f :: π, .xc _ _ _ _, s', _, _, t, t', _, hs, _, _, _ => by cases hs
  | .fld c f :: π, .all _, s', _, _, t, t', _, hs, _, _, _ => by cases hs
  | .fld c f :: π, .row _, s', _, _, t, t', _, hs, _, _, _ => by cases hs
  | .fld c f :: π, .opt _, s', _, _, t, t', _, hs, _, _, _ => by cases hs
  | .ix n :: π, .fz, s', _, _, t, t', _, hs, _, _, _ => by cases hs
  | .ix n :: π, .vw, s', _, _, t, t', _, hs, _, _, _ => by cases hs
  | .ix n :: π, .xc _ _ _ _, s', _, _, t, t', _, hs, _, _, _ => by cases hs
  | .ix n :: π, .flds _, s', _, _, t, t', _, hs, _, _, _ => by cases hs
  | .ix n :: π, .row _, s', _, _, t, t', _, hs, _, _, _ => by cases hs
  | .ix n :: π, .opt _, s', _, _, t, t', _, hs, _, _, _ => by cases hs
end
end NQ
namespace NQ
open PySem L2
/-! ### expressions that name a place -/
def eP (i : Nat) (π : List Pt) : Qf := fun δ => match dAt δ i with
  | some t => getP t π
  | none => none
section
variable {K : PySem.W.Frag} {H : Hp}
end
section
variable {X : Cx} {K : PySem.W.Frag} {sh : Nat → Sh} {e o k : Expr} {i : Nat} {π : List Pt} {pos : Pos}
/-- a place is read -/
theorem Fr.place {W : Addr → Prop} {Y : List Addr} {Fm : Nat → List Addr} {H : Hp} {σ : L2.St} {δ : Dl} {t t' : T} {s' : Sh} (f : Fr K sh W Y Fm H σ δ) (e : dAt δ i = some t) (hs : shP (sh i) π = some s') (hn : (sh i).pln = true) (hg : getP t π = some t') :
    ∃ v v' F2, σ[i]? = some (some v) ∧ pathV K H v π v' ∧ Ow K (Gw Y Fm W) H s' F2 v' t' := by
  obtain ⟨v, h1, h2⟩ := f.rel i t e
  obtain ⟨F1, F2, F3, v', eF, k1, k2, k3⟩ := focus (h2.own hn) hs hg (f.nd i) fun a z => .inl (.inr ⟨i, z⟩)
  exact ⟨v, v', F2, h1, k2, k1⟩
/-- a place is written: what it holds is told anew -/
theorem Fr.put {W : Addr → Prop} {N Y : List Addr} {Fm : Nat → List Addr} {H : Hp} {σ : L2.St} {δ : Dl} {t t' : T} {s' : Sh} (f : Fr K sh W (N ++ Y) Fm H σ δ) (e : dAt δ i = some t) (hs : shP (sh i) π = some s') (hn : (sh i).pln = true) (hg : getP t π = some t') :
    ∃ v v' F2, σ[i]? = some (some v) ∧ pathV K H v π v' ∧ Ow K (Gw (N ++ Y) Fm W) H s' F2 v' t' ∧ F2.Nodup ∧ (∀ a ∈ F2, a ∈ Fm i) ∧
      ∀ (U : Addr → Prop) (H' : Hp) (F2' : List Addr) (w : T), EdP U H H' → (∀ a, U a → a ∈ F2) → F2'.Nodup → (∀ a ∈ F2', a ∈ F2 ∨ a ∈ N) → Ow K (Gw (N ++ Y) Fm W) H' s' F2' v' w →
        ∃ t2 Fm', setP t π w = some t2 ∧ Fr K sh W Y Fm' H' σ (δ.set i (some t2)) ∧ (∀ a, Om Fm' a → a ∈ N ∨ Om Fm a) := by
  obtain ⟨v, h1, h2⟩ := f.rel i t e
  obtain ⟨F1, F2, F3, v', eF, k1, k2, k3⟩ := focus (h2.own hn) hs hg (f.nd i) fun a z => .inl (.inr ⟨i, z⟩)
  have nd := f.nd i
  rw [eF] at nd
  have n12 := List.nodup_append.mp nd
  have n1 := List.nodup_append.mp n12.1
  have m2 : ∀ a ∈ F2, a ∈ Fm i := fun a z => by rw [eF]; exact List.mem_append_left _ (List.mem_append_right _ z)
  have m1 : ∀ a ∈ F1, a ∈ Fm i := fun a z => by rw [eF]; exact List.mem_append_left _ (List.mem_append_left _ z)
  have m3 : ∀ a ∈ F3, a ∈ Fm i := fun a z => by rw [eF]; exact List.mem_append_right _ z
  refine ⟨v, v', F2, h1, k2, k1, n1.2.1, m2, fun U H' F2' w ed hu nd2 hsub o => ?_⟩
  have nx := List.nodup_append.mp f.xn
  let Fm' : Nat → List Addr := fun j => if j = i then F1 ++ F2' ++ F3 else Fm j
  have hm : ∀ j a, a ∈ Fm' j → (j = i ∧ (a ∈ Fm i ∨ a ∈ N)) ∨ (j ≠ i ∧ a ∈ Fm j) := fun j a z => by
    by_cases y : j = i
    · simp only [Fm', if_pos y] at z
      refine .inl ⟨y, ?_⟩
      rcases List.mem_append.mp z with z | z
      · rcases List.mem_append.mp z with z | z
        · exact .inl (m1 a z)
        · exact (hsub a z).imp (m2 a) id
      · exact .inl (m3 a z)
    · simp only [Fm', if_neg y] at z
      exact .inr ⟨y, z⟩
  have hgm : ∀ a, Gm Y Fm' a → Gm (N ++ Y) Fm a := fun a z => by
    rcases z with z | ⟨j, z⟩
    · exact .inl (List.mem_append_right _ z)
    · rcases hm j a z with ⟨_, z | z⟩ | ⟨_, z⟩
      · exact .inr ⟨i, z⟩
      · exact .inl (List.mem_append_left _ z)
      · exact .inr ⟨j, z⟩
  have hgw : ∀ a, Gw Y Fm' W a → Gw (N ++ Y) Fm W a := fun a z => z.imp (hgm a) id
  obtain ⟨t2, w1, w2⟩ := k3 (Gw Y Fm' W) U H' F2' w ed (fun a z => .inl (hu a z)) (fun a z => .inl (hgw a z)) (o.weak hgw)
  have il := dAt_lt e
  refine ⟨t2, Fm', w1, ⟨fun j u ej => ?_, fun j ej => ?_, fun j => ?_, fun j l a n q q2 => ?_, fun j a q => ?_, fun a z => ed.2.2 a (f.wl a z), by simpa using f.len, nx.2.1, fun j a q q2 => ?_, fun a q => f.xw a (List.mem_append_right _ q), fun a q => ed.2.2 a (f.xl a (List.mem_append_right _ q))⟩, fun a ⟨j, z⟩ => ?_⟩
  · by_cases y : j = i
    · subst y
      have e2 := dAt_set_eq ej
      cases e2
      refine ⟨v, h1, .inr ?_⟩
      simp only [Fm', if_pos]
      exact w2
    · rw [dAt_set_ne y] at ej
      obtain ⟨x, q1, q2⟩ := f.rel j u ej
      refine ⟨x, q1, ?_⟩
      have e3 : Fm' j = Fm j := if_neg y
      rw [e3]
      exact q2.step ed (fun a z => .inl (.inr ⟨i, m2 a (hu a z)⟩)) (fun a z => .inl (hgw a z)) (fun a z => .inl (hgm a z)) fun a z z2 => f.dj j i a y z (m2 a (hu a z2))
  · by_cases y : j = i
    · subst y
      rw [dAt_set_self il] at ej
      cases ej
    · rw [dAt_set_ne y] at ej
      show (if j = i then _ else Fm j) = []
      rw [if_neg y]
      exact f.un j ej
  · by_cases y : j = i
    · show List.Nodup (if j = i then _ else Fm j)
      rw [if_pos y]
      refine List.nodup_append.mpr ⟨List.nodup_append.mpr ⟨n1.1, nd2, fun a z b z2 eq => ?_⟩, n12.2.1, fun a z b z2 eq => ?_⟩
      · subst eq
        rcases hsub a z2 with z2 | z2
        · exact n1.2.2 a z a z2 rfl
        · exact f.xd i a (List.mem_append_left _ z2) (m1 a z)
      · subst eq
        rcases List.mem_append.mp z with z | z
        · exact n12.2.2 a (List.mem_append_left _ z) a z2 rfl
        · rcases hsub a z with z | z
          · exact n12.2.2 a (List.mem_append_right _ z) a z2 rfl
          · exact f.xd i a (List.mem_append_left _ z) (m3 a z2)
    · show List.Nodup (if j = i then _ else Fm j)
      rw [if_neg y]
      exact f.nd j
  · rcases hm j a q with ⟨y1, y2 | y2⟩ | ⟨y1, y2⟩ <;> rcases hm l a q2 with ⟨x1, x2 | x2⟩ | ⟨x1, x2⟩
    · exact n (y1.trans x1.symm)
    · exact n (y1.trans x1.symm)
    · exact f.dj i l a (fun z => x1 z.symm) y2 x2
    · exact n (y1.trans x1.symm)
    · exact n (y1.trans x1.symm)
    · exact f.xd l a (List.mem_append_left _ y2) x2
    · exact f.dj j i a y1 y2 x2
    · exact f.xd j a (List.mem_append_left _ x2) y2
    · exact f.dj j l a n y2 x2
  · rcases hm j a q with ⟨y1, y2 | y2⟩ | ⟨y1, y2⟩
    · exact f.dw i a y2
    · exact f.xw a (List.mem_append_left _ y2)
    · exact f.dw j a y2
  · rcases hm j a q2 with ⟨y1, y2 | y2⟩ | ⟨y1, y2⟩
    · exact f.xd i a (List.mem_append_right _ q) y2
    · exact nx.2.2 a y2 a q rfl
    · exact f.xd j a (List.mem_append_right _ q) y2
  · rcases hm j a z with ⟨y1, y2 | y2⟩ | ⟨y1, y2⟩
    · exact .inr ⟨i, y2⟩
    · exact .inl y2
    · exact .inr ⟨j, y2⟩
end
/-! ### append -/
theorem OwL.snoc {K : PySem.W.Frag} {G : Addr → Prop} {H : Hp} {s : Sh} {N : List Addr} {y : V} {u : T} (o : Ow K G H s N y u) : ∀ {ss : List Sh} {F : List Addr} {vs : List V} {ts : List T}, OwL K G H ss F vs ts → OwL K G H (ss ++ [s]) (F ++ N) (vs ++ [y]) (ts ++ [u])
  | _, _, _, _, .nil => by
    have := OwL.cons o OwL.nil
    simpa using this
  | _, _, _, _, .cons (F := F) (F' := F') h r => by
    have := OwL.cons h (OwL.snoc o r)
    rw [List.append_assoc]
    exact this
/-- the root of a list of one's own -/
theorem Ow.list {K : PySem.W.Frag} {G : Addr → Prop} {H : Hp} {s : Sh} {F : List Addr} {v : V} {ts : List T} (h : Ow K G H (.all s) F v (.lst ts)) : ∃ a F' vs, v = .ref a ∧ F = a :: F' ∧ H a = some (.lst vs) ∧ OwL K G H (ts.map fun _ => s) F' vs ts := by
  cases h with
  | nd c k r => cases k; exact ⟨_, _, _, rfl, rfl, c, r⟩
end NQ
namespace NQ
open PySem L2
/-! ### x.append(e), x a list of one's own -/
def fApp (i : Nat) (f : Dl → Rs) : Dl → Rs := fun δ => match dAt δ i with
  | some (.lst _) => match f δ with
    | none => none
    | some (.error e, δ') => some (.error e, δ')
    | some (.ok u, δ') => match dAt δ' i with
      | some (.lst ts) => if ts.length < sizeLine then some (.ok .non, δ'.set i (some (.lst (ts ++ [u])))) else none
      | _ => none
  | _ => none
section
variable {X : Cx} {K : PySem.W.Frag} {sh : Nat → Sh} {Wx : WX} {o e : Expr} {i : Nat} {f : Dl → Rs} {apos cpos : Pos}
/-! ### x[k] = e -/
end
def sSetIx (i : Nat) (fk : Qf) (f : Dl → Rs) : Sf := fun δ => match f δ with
  | none => none
  | some (.error e, δ') => some (.exc e, δ')
  | some (.ok u, δ') => match fk δ' with
    | some (.int n) => match dAt δ' i with
      | some (.lst ts) => match setAt ts n u with
        | some ts' => some (.nx, δ'.set i (some (.lst ts')))
        | none => none
      | _ => none
    | _ => none
section
variable {X : Cx} {K : PySem.W.Frag} {c : Cf} {Wx : WX} {o e k : Expr} {i : Nat} {f : Dl → Rs} {fk : Qf} {pos pos' : Pos}
/-! ### x += e, x a number -/
def sAug (i : Nat) (op : Op) (f : Dl → Rs) : Sf := fun δ => match dAt δ i with
  | some a => match f δ with
    | none => none
    | some (.error e, δ') => some (.exc e, δ')
    | some (.ok b, δ') => match op [a, b] with
      | some c => some (.nx, δ'.set i (some c))
      | none => none
  | none => none
def addI : Op
  | [.int i, .int j] => some (.int (i + j))
  | _ => none
def subI : Op
  | [.int i, .int j] => some (.int (i - j))
  | _ => none
end
/-! ### the rules by name -/
section
variable {X : Cx} {K : PySem.W.Frag} {a b : Expr} {pos p : Pos}
abbrev inA : Op := altT inT dinT
abbrev ninA : Op := altT ninT dninT
abbrev ixRA : Op := altT ixR dgetR
abbrev ixA : Op := altT ixRA (altT ixD dgetD)
end
end NQ
namespace NQ
open PySem L2
/-! ### lists joined, lists repeated, also those that are frozen -/
section
variable {K : PySem.W.Frag}
end
section
variable {X : Cx} {K : PySem.W.Frag} {a b c : Expr} {es : List Expr} {pos p : Pos}
abbrev addA : Op := altT addR addL
abbrev mulA : Op := altT mulR mulL
/-! ### calls of what is built in -/
abbrev listA : Op := altT listT listS
/-! ### isinstance, what is built in -/
def T.tyn : T → Option String
  | .non => some "NoneType" | .bl _ => some "bool" | .int _ => some "int" | .str _ => some "str"
  | .lst _ => some "list" | .tup _ => some "tuple" | .ctup _ => some "tuple" | .clst _ => some "list"
  | _ => none
def baseTys : List String := ["NoneType", "bool", "int", "str", "list", "tuple", "dict"]
def subB (m n : String) : Option Bool := if m ∈ baseTys ∧ n ∈ baseTys then some (m == n || (m == "bool" && n == "int")) else none
def isiT : Op
  | [t, .ty n] => match t.tyn with
    | some m => match subB m n with | some b => some (.bl b) | none => none
    | none => none
  | _ => none
end
end NQ
namespace NQ
open PySem L2
/-! ### a and b, a or b as values -/
def truW : T → Option Bool
  | .non => some false
  | .bl b => some b
  | .int i => some (i != 0)
  | .str z => if z.length ≤ sizeLine then some ((z.length : Int) != 0) else none
  | .lst ts => some (!ts.isEmpty)
  | .tup ts => some (!ts.isEmpty)
  | _ => none
theorem Rp.truW {K : PySem.W.Frag} {H : Hp} {x : V} {t : T} {b : Bool} (h : Rp K H x t) (e : truW t = some b) : TruV K x H b := by
  have e2 : truT t = some b := by
    cases t <;> first
      | exact e
      | cases e
  rcases h.tru e2 with z | ⟨p, rfl, z⟩
  · exact z
  · exfalso
    have z : (∃ o, (∃ xs, o = HO.dT xs) ∧ Rd H p o) ∨ ∃ o, (∃ xs, o = HO.dK xs) ∧ Rd H p o := z.imp (fun ⟨k, q, _⟩ => ⟨_, ⟨k, rfl⟩, q⟩) fun ⟨k, q, _⟩ => ⟨_, ⟨k, rfl⟩, q⟩
    have z : ∃ o, (∀ xs, o ≠ HO.lst xs) ∧ (∀ xs, o ≠ HO.tup xs) ∧ (∀ xs, HO.lst xs ≠ o) ∧ Rd H p o ∧ ∀ u v, o ≠ .frz u v := by
      rcases z with ⟨_, ⟨xs, rfl⟩, z⟩ | ⟨_, ⟨xs, rfl⟩, z⟩
      · exact ⟨.dT xs, (fun _ q => nomatch q), (fun _ q => nomatch q), (fun _ q => nomatch q), z, fun _ _ q => nomatch q⟩
      · exact ⟨.dK xs, (fun _ q => nomatch q), (fun _ q => nomatch q), (fun _ q => nomatch q), z, fun _ _ q => nomatch q⟩
    obtain ⟨o, n1, n2, n3, z, n4⟩ := z
    cases t with
    | dit ks ts => cases e
    | ctup ts => cases e
    | clst ts => cases e
    | dic ks ts => cases e
    | lst ts =>
      cases h with
      | sc h => exact h.elim
      | nd c _ =>
        rcases c with c | ⟨_, c⟩ <;> rcases z with z | ⟨_, z⟩ <;> rw [z] at c
        · exact n1 _ (Option.some.inj c)
        · cases c
        · exact n4 _ _ (Option.some.inj c)
        · cases c; exact n1 _ rfl
    | tup ts =>
      cases h with
      | sc h => exact h.elim
      | nd c _ =>
        have c : H p = _ := c
        rcases z with z | ⟨_, z⟩ <;> rw [z] at c
        · exact n2 _ (Option.some.inj c)
        · cases c
    | non => cases h.non
    | bl b => cases h.bl
    | int b => cases h.int
    | str b => cases h.str.1
    | ins c fs ts => cases e
    | gl x => cases e
    | ty n => cases e
def andV (f g : Qf) : Qf := fun δ => match f δ with
  | none => none
  | some t => match truW t with
    | some true => g δ
    | some false => some t
    | none => none
def orV (f g : Qf) : Qf := fun δ => match f δ with
  | none => none
  | some t => match truW t with
    | some true => some t
    | some false => g δ
    | none => none
def andW (f g : Dl → Rs) : Dl → Rs := fun δ => match f δ with
  | none => none
  | some (.error e, δ') => some (.error e, δ')
  | some (.ok t, δ') => match truW t with
    | some true => g δ'
    | some false => some (.ok t, δ')
    | none => none
def orW (f g : Dl → Rs) : Dl → Rs := fun δ => match f δ with
  | none => none
  | some (.error e, δ') => some (.error e, δ')
  | some (.ok t, δ') => match truW t with
    | some true => some (.ok t, δ')
    | some false => g δ'
    | none => none
section
variable {X : Cx} {K : PySem.W.Frag} {sh : Nat → Sh} {Wx : WX} {a b : Expr} {rest : List Expr} {pos : Pos} {f g : Qf} {u v : Dl → Rs} {op : BoolOp}
end
/-! ### a < b < c -/
def chQ (op op' : Op) (f g h : Qf) : Qf := fun δ => match f δ, g δ with
  | some x, some y => match op [x, y] with
    | some (.bl true) => match h δ with
      | some z => op' [y, z]
      | none => none
    | some (.bl false) => some (.bl false)
    | _ => none
  | _, _ => none
section
variable {X : Cx} {K : PySem.W.Frag} {sh : Nat → Sh} {Wx : WX} {a b c : Expr} {pos : Pos} {f g h : Qf} {o o' : CmpOp} {op op' : Op} {m1 m2 m3 : Md}
end
end NQ
namespace NQ
open PySem L2
/-! ### {k: v, ..} -/
def dispT (ks : List Key) : Op := fun ts => if ks.Nodup ∧ ks.length = ts.length ∧ ks.length ≤ 15 then some (.dic ks ts) else none
def fDisp (ks : List Key) (os : List Opd) : Dl → Rs := opn (dispT ks) os
section
variable {X : Cx} {K : PySem.W.Frag} {sh : Nat → Sh} {Wx : WX} {keys : List (Option Expr)} {values : List Expr} {pos : Pos} {ks : List Key} {os : List Opd}
end
/-! ### a, b = e -/
def sAsg (f : Dl → Rs) (g : Gf) : Sf := fun δ => match f δ with
  | none => none
  | some (.error e, δ') => some (.exc e, δ')
  | some (.ok t, δ') => match g t δ' with
    | some δ2 => some (.nx, δ2)
    | none => none
section
variable {X : Cx} {K : PySem.W.Frag} {c : Cf} {Wx : WX} {e tg : Expr} {pos : Pos} {f : Dl → Rs} {g : Gf} {ns : List Nat}
end
/-! ### from here on a thing of one's own is frozen, to the end of the block -/
def sFrz (i : Nat) (G : Sf) : Sf := fun δ => match dAt δ i with
  | none => none
  | some _ => match G δ with
    | none => none
    | some (fl, δ') => some (fl, δ'.set i none)
section
variable {K : PySem.W.Frag} {sh sh' : Nat → Sh} {W : Addr → Prop} {Y : List Addr} {Fm : Nat → List Addr} {H : Hp} {σ : L2.St} {δ : Dl} {i : Nat}
theorem Fr.resh (f : Fr K sh W Y Fm H σ δ) (h : ∀ j, j ≠ i → sh' j = sh j) (e : dAt δ i = none) : Fr K sh' W Y Fm H σ δ := by
  refine { f with rel := fun j t q => ?_ }
  obtain ⟨v, h1, h2⟩ := f.rel j t q
  have : j ≠ i := fun z => by rw [z, e] at q; cases q
  exact ⟨v, h1, by rw [h j this]; exact h2⟩
theorem dAt_set_none : ∀ {δ : Dl} {i : Nat}, dAt (δ.set i none) i = none
  | [], _ => rfl
  | _ :: _, 0 => rfl
  | _ :: r, i + 1 => dAt_set_none (δ := r) (i := i)
theorem dAt_same : ∀ {δ : Dl} {i : Nat} {t : T}, dAt δ i = some t → δ.set i (some t) = δ
  | [], _, _, h => by cases h
  | x :: r, 0, t, h => by show some t :: r = x :: r; rw [← show x = some t from h]
  | x :: r, i + 1, t, h => by show x :: r.set i (some t) = x :: r; rw [dAt_same (δ := r) h]
theorem Fr.drop (f : Fr K sh W Y Fm H σ δ) (h : Fm i = []) : Fr K sh W Y Fm H σ (δ.set i none) := by
  refine { f with rel := fun j t q => ?_, un := fun j q => ?_, len := by rw [List.length_set]; exact f.len }
  · by_cases z : j = i
    · subst z; rw [dAt_set_none] at q; cases q
    · rw [dAt_set_ne z] at q; exact f.rel j t q
  · by_cases z : j = i
    · subst z; exact h
    · rw [dAt_set_ne z] at q; exact f.un j q
theorem Fr.freeze {t : T} (f : Fr K sh W Y Fm H σ δ) (e : dAt δ i = some t) (hn : (sh i).pln = true) : Fr K (fun j => if j = i then .fz else sh j) W Y (fun j => if j = i then [] else Fm j) H σ δ := by
  obtain ⟨v, h1, h2⟩ := f.rel i t e
  have o := h2.own hn
  have f1 := (f.del i (some v)).let
  have f2 := f1.resh (i := i) (sh' := fun j => if j = i then .fz else sh j) (fun j z => if_neg z) dAt_set_none
  have d : Df K (Gw Y (fun j => if j = i then [] else Fm j) W) H v t := Ow.freeze (fun a z => ?_) o
  · have f3 := f2.set (i := i) (v := v) (t := t) (by simp) (.inr (by simp only [if_pos]; exact .fz d))
    rw [List.set_set, List.set_set] at f3
    have es : σ.set i (some v) = σ := by
      refine List.ext_getElem? fun j => ?_
      by_cases z : j = i
      · subst z; rw [List.getElem?_set_self (List.getElem?_eq_some_iff.mp h1).1, h1]
      · rw [List.getElem?_set_ne (fun w => z w.symm)]
    rw [es, dAt_same e] at f3
    exact f3
  · rcases z with (z | ⟨j, z⟩) | z
    · exact ⟨.inl (.inl z), f.xd i a z⟩
    · by_cases y : j = i
      · simp only [if_pos y] at z; exact absurd z List.not_mem_nil
      · simp only [if_neg y] at z
        exact ⟨.inl (.inr ⟨j, z⟩), f.dj j i a y z⟩
    · exact ⟨.inr z, fun w => f.dw i a w z⟩
end
section
variable {X : Cx} {K : PySem.W.Frag} {c : Cf} {Wx : WX} {rest : List Stmt} {G : Sf}
end
end NQ
namespace NQ
open PySem L2
section
variable {K : PySem.W.Frag} {b1 b2 : Bool}
end
section
variable {X : Cx} {K : PySem.W.Frag} {c : Cf} {sh : Nat → Sh} {Wx : WX} {st : Stmt} {rest : List Stmt} {e : Expr}
end
end NQ
namespace NQ
open PySem L2
/-! ### what the pure functions do, step by step -/
section
variable {F G : Sf} {f g h : Dl → Rs} {u v w : Qf} {a b : Qb} {t s : Dl → Rb} {δ : Dl} {i : Nat} {op op' : Op} {fs : List Qf} {os : List Opd} {x y : T} {ts : List T} {gp : Gf} {gs : Gfs} {its : Il}
theorem ap_set : sSet i f δ = match f δ with
  | none => none
  | some (.error e, δ') => some (.exc e, δ')
  | some (.ok t, δ') => some (.nx, δ'.set i (some t)) := (rfl)
theorem ap_setN : sSetN i f δ = match f δ with
  | none => none
  | some (.error e, δ') => some (.exc e, δ')
  | some (.ok t, δ') => if i < δ'.length then some (.nx, δ'.set i (some t)) else none := (rfl)
theorem ap_drop : sDrop f δ = match f δ with
  | none => none
  | some (.error e, δ') => some (.exc e, δ')
  | some (.ok _, δ') => some (.nx, δ') := (rfl)
theorem ap_ret : sRet f δ = match f δ with
  | none => none
  | some (.error e, δ') => some (.exc e, δ')
  | some (.ok t, δ') => some (.ret t, δ') := (rfl)
theorem ap_retV : sRetV i δ = match dAt δ i with
  | none => none
  | some t => some (.ret t, δ.set i none) := (rfl)
theorem ap_if : sIf t F G δ = match t δ with
  | none => none
  | some (.error e, δ') => some (.exc e, δ')
  | some (.ok true, δ') => F δ'
  | some (.ok false, δ') => G δ' := (rfl)
theorem ap_for : sFor its gp F δ = match its δ with
  | none => none
  | some (.error e, δ') => some (.exc e, δ')
  | some (.ok ts, δ') => forM ts gp F δ' := (rfl)
theorem ap_setIx : sSetIx i u f δ = match f δ with
  | none => none
  | some (.error e, δ') => some (.exc e, δ')
  | some (.ok w, δ') => match u δ' with
    | some (.int n) => match dAt δ' i with
      | some (.lst ts) => match setAt ts n w with
        | some ts' => some (.nx, δ'.set i (some (.lst ts')))
        | none => none
      | _ => none
    | _ => none := (rfl)
theorem ap_aug : sAug i op f δ = match dAt δ i with
  | some a => match f δ with
    | none => none
    | some (.error e, δ') => some (.exc e, δ')
    | some (.ok b, δ') => match op [a, b] with
      | some c => some (.nx, δ'.set i (some c))
      | none => none
  | none => none := (rfl)
theorem ap_asg : sAsg f gp δ = match f δ with
  | none => none
  | some (.error e, δ') => some (.exc e, δ')
  | some (.ok t, δ') => match gp t δ' with
    | some δ2 => some (.nx, δ2)
    | none => none := (rfl)
theorem ap_frz : sFrz i F δ = match dAt δ i with
  | none => none
  | some _ => match F δ with
    | none => none
    | some (fl, δ') => some (fl, δ'.set i none) := (rfl)
theorem ap_qE : qE u δ = match u δ with
  | none => none
  | some t => some (.ok t, δ) := (rfl)
theorem ap_opq : opq op fs δ = match evq fs δ with
  | none => none
  | some ts => op ts := (rfl)
theorem ap_opn : opn op os δ = match runs os δ with
  | none => none
  | some (.error e, δ') => some (.error e, δ')
  | some (.ok l, δ') => match res l δ' with
    | none => none
    | some ts => match op ts with
      | none => none
      | some c => some (.ok c, δ') := (rfl)
theorem ap_opnc : opnc op os δ = match runs os δ with
  | some (.ok l, δ') => match res l δ' with
    | none => none
    | some ts => match op ts with
      | none => none
      | some c => some (.ok c, δ')
  | _ => none := (rfl)
theorem ap_call {ps : List Sh} {Ff : List T → Fo} : fCall ps Ff os δ = match runs os δ with
  | none => none
  | some (.error e, δ') => some (.error e, δ')
  | some (.ok l, δ') => match res l δ' with
    | none => none
    | some ts => match Ff ts with
      | none => none
      | some (.ret t, ts') => if ts'.length = ps.length then some (.ok t, wb ps (skO os) ts' δ') else none
      | some (.exc e, ts') => if ts'.length = ps.length then some (.error e, wb ps (skO os) ts' δ') else none := (rfl)
theorem ap_app : fApp i f δ = match dAt δ i with
  | some (.lst _) => match f δ with
    | none => none
    | some (.error e, δ') => some (.error e, δ')
    | some (.ok u, δ') => match dAt δ' i with
      | some (.lst ts) => if ts.length < sizeLine then some (.ok .non, δ'.set i (some (.lst (ts ++ [u])))) else none
      | _ => none
  | _ => none := (rfl)
theorem ap_eV : eV i δ = dAt δ i := (rfl)
theorem ap_ifE : ifE t f g δ = match t δ with
  | none => none
  | some (.error e, δ') => some (.error e, δ')
  | some (.ok true, δ') => f δ'
  | some (.ok false, δ') => g δ' := (rfl)
theorem ap_ifQ : ifQ a u v δ = match a δ with
  | none => none
  | some true => u δ
  | some false => v δ := (rfl)
theorem ap_asB : asB u δ = match u δ with
  | some (.bl b) => some b
  | _ => none := (rfl)
theorem ap_asTru : asTru u δ = match u δ with
  | some t => truT t
  | none => none := (rfl)
theorem ap_asBE : asBE f δ = match f δ with
  | some (.ok (.bl b), δ') => some (.ok b, δ')
  | some (.error e, δ') => some (.error e, δ')
  | _ => none := (rfl)
theorem ap_asTruE : asTruE f δ = match f δ with
  | none => none
  | some (.error e, δ') => some (.error e, δ')
  | some (.ok t, δ') => match truT t with
    | some b => some (.ok b, δ')
    | none => none := (rfl)
theorem ap_qB : qB a δ = match a δ with
  | none => none
  | some b => some (.ok b, δ) := (rfl)
theorem ap_notQ : notQ a δ = match a δ with
  | some b => some (!b)
  | none => none := (rfl)
theorem ap_andQ : andQ a b δ = match a δ with
  | some true => b δ
  | some false => some false
  | none => none := (rfl)
theorem ap_orQ : orQ a b δ = match a δ with
  | some true => some true
  | some false => b δ
  | none => none := (rfl)
theorem ap_notE : notE t δ = match t δ with
  | none => none
  | some (.error e, δ') => some (.error e, δ')
  | some (.ok b, δ') => some (.ok (!b), δ') := (rfl)
theorem ap_andE : andE t s δ = match t δ with
  | none => none
  | some (.error e, δ') => some (.error e, δ')
  | some (.ok true, δ') => s δ'
  | some (.ok false, δ') => some (.ok false, δ') := (rfl)
theorem ap_orE : orE t s δ = match t δ with
  | none => none
  | some (.error e, δ') => some (.error e, δ')
  | some (.ok true, δ') => some (.ok true, δ')
  | some (.ok false, δ') => s δ' := (rfl)
theorem ap_andV : andV u v δ = match u δ with
  | none => none
  | some t => match truW t with
    | some true => v δ
    | some false => some t
    | none => none := (rfl)
theorem ap_orV : orV u v δ = match u δ with
  | none => none
  | some t => match truW t with
    | some true => some t
    | some false => v δ
    | none => none := (rfl)
theorem ap_andW : andW f g δ = match f δ with
  | none => none
  | some (.error e, δ') => some (.error e, δ')
  | some (.ok t, δ') => match truW t with
    | some true => g δ'
    | some false => some (.ok t, δ')
    | none => none := (rfl)
theorem ap_orW : orW f g δ = match f δ with
  | none => none
  | some (.error e, δ') => some (.error e, δ')
  | some (.ok t, δ') => match truW t with
    | some true => some (.ok t, δ')
    | some false => g δ'
    | none => none := (rfl)
theorem ap_chQ : chQ op op' u v w δ = match u δ, v δ with
  | some x, some y => match op [x, y] with
    | some (.bl true) => match w δ with
      | some z => op' [y, z]
      | none => none
    | some (.bl false) => some (.bl false)
    | _ => none
  | _, _ => none := (rfl)
theorem ap_gT : gT gs x δ = match seqT x with
  | some ts => gs ts δ
  | none => none := (rfl)
theorem ap_gCs : gCs gp gs (x :: ts) δ = match gp x δ with
  | some δ' => gs ts δ'
  | none => none := (rfl)
theorem ap_itE : itE f δ = match f δ with
  | none => none
  | some (.error e, δ') => some (.error e, δ')
  | some (.ok t, δ') => match itT t with
    | some ts => some (.ok ts, δ')
    | none => none := (rfl)
theorem ap_itR1 : itR1 f δ = match f δ with
  | some (.ok (.int j), δ') => if -(2 ^ 62) ≤ j ∧ j < 2 ^ 62 then some (.ok ((List.range j.toNat).map fun i => T.int (0 + (i : Nat))), δ') else none
  | some (.error e, δ') => some (.error e, δ')
  | _ => none := (rfl)
theorem ap_itR2 : itR2 f g δ = match f δ with
  | some (.ok (.int i), δ1) => match g δ1 with
    | some (.ok (.int j), δ') => if -(2 ^ 62) ≤ i ∧ i < 2 ^ 62 ∧ -(2 ^ 62) ≤ j ∧ j < 2 ^ 62 then some (.ok ((List.range (j - i).toNat).map fun n => T.int (i + (n : Nat))), δ') else none
    | some (.error e, δ') => some (.error e, δ')
    | _ => none
  | some (.error e, δ') => some (.error e, δ')
  | _ => none := (rfl)
theorem ap_itEn : itEn f δ = match f δ with
  | some (.ok (.lst ts), δ') => some (.ok (enT ts), δ')
  | some (.error e, δ') => some (.error e, δ')
  | _ => none := (rfl)
theorem ap_lcE {vs : List Nat} : lcE its gp t f vs δ = match its δ with
  | none => none
  | some (.error e, δ') => some (.error e, δ')
  | some (.ok ts, δ') => if ts.length < sizeLine then (match lcL gp t f vs ts (wipeD δ' vs) with
    | some (us, δ2) => some (.ok (.lst us), δ2)
    | none => none) else none := (rfl)
theorem ap_alt {f g : Op} : altT f g ts = match f ts with
  | some c => some c
  | none => g ts := (rfl)
theorem ap_fn {ps : List Sh} {m : Nat} {rs : Sh} : fnT ps m rs F ts = match F (ts.map some ++ List.replicate m none) with
  | some (.nx, δ) => if rs.nilOk then (match fin ps ts δ with | some l => some (.ret .non, l) | none => none) else none
  | some (.ret t, δ) => match fin ps ts δ with | some l => some (.ret t, l) | none => none
  | some (.exc e, δ) => match fin ps ts δ with | some l => some (.exc e, l) | none => none
  | _ => none := (rfl)
theorem d0 {r : Dl} {z : Option T} : dAt (z :: r) 0 = z := (rfl)
/-! ### a loop keeps what it keeps -/
end
end NQ
namespace NQ
open PySem L2
/-! ### what the operations do -/
section
variable {i j k n : Int} {a b s : Str} {x y z t u : T} {xs ys ts : List T} {ks : List Key} {c d : Bool} {f : Int → Int → Bool}
theorem o_adds : addR [.str a, .str b] = if a.length + b.length ≤ sizeLine then some (.str (a ++ b)) else none := (rfl)
theorem o_addAs (h : a.length + b.length ≤ sizeLine) : addA [.str a, .str b] = some (.str (a ++ b)) := by simp only [ap_alt, o_adds, if_pos h]
theorem o_addL : addL [.lst xs, .lst ys] = if xs.length + ys.length ≤ sizeLine then some (.lst (xs ++ ys)) else none := (rfl)
theorem o_addAl : addA [.lst xs, .lst ys] = if xs.length + ys.length ≤ sizeLine then some (.lst (xs ++ ys)) else none := (rfl)
theorem o_muli : mulR [.int i, .int j] = if (-(2 ^ 64) < i ∧ i < 2 ^ 64) ∨ (-(2 ^ 64) < j ∧ j < 2 ^ 64) ∨ i.natAbs.log2 + j.natAbs.log2 < 1000000 then some (.int (i * j)) else none := (rfl)
theorem o_muls : mulR [.str a, .int n] = if -(2 ^ 20) < n ∧ n < 2 ^ 20 ∧ a.length * n.toNat ≤ 1000000 then some (.str (Txt.mul a n)) else none := (rfl)
theorem o_mulL : mulL [.lst xs, .int n] = if -(2 ^ 63) ≤ n ∧ n < 2 ^ 63 ∧ xs.length * n.toNat ≤ sizeLine then some (.lst (List.replicate n.toNat xs).flatten) else none := (rfl)
theorem o_mulAi (h : (-(2 ^ 64) < i ∧ i < 2 ^ 64) ∨ (-(2 ^ 64) < j ∧ j < 2 ^ 64) ∨ i.natAbs.log2 + j.natAbs.log2 < 1000000) : mulA [.int i, .int j] = some (.int (i * j)) := by simp only [ap_alt, o_muli, if_pos h]
theorem o_mulAl : mulA [.lst xs, .int n] = if -(2 ^ 63) ≤ n ∧ n < 2 ^ 63 ∧ xs.length * n.toNat ≤ sizeLine then some (.lst (List.replicate n.toNat xs).flatten) else none := (rfl)
theorem o_modi : modT [.int i, .int j] = if 0 < j then some (.int (i % j)) else none := (rfl)
theorem o_divi : divT [.int i, .int j] = if 0 < j ∧ j.natAbs.log2 < 9000 then some (.int (i / j)) else none := (rfl)
theorem log_lt {n : Nat} (h : n < 1000000000000) : n.log2 < 9000 := by
  by_cases z : n = 0
  · rw [z]; decide
  · exact Nat.lt_trans ((Nat.log2_lt z).mpr (show n < 2 ^ 40 by omega)) (by decide)
theorem o_divs (h0 : 0 < j) (h1 : j < 1000000000000) : divT [.int i, .int j] = some (.int (i / j)) := by
  rw [o_divi, if_pos ⟨h0, log_lt (by omega)⟩]
theorem o_powi : powT [.int i, .int j] = if 0 ≤ j ∧ j ≤ 1000000 ∧ i.natAbs < 2 ^ 64 then some (.int (i ^ j.toNat)) else none := (rfl)
theorem o_pows (h0 : 0 ≤ j) (h1 : j ≤ 1000000) (h2 : -18446744073709551616 < i) (h3 : i < 18446744073709551616) : powT [.int i, .int j] = some (.int (i ^ j.toNat)) := by
  rw [o_powi, if_pos ⟨h0, h1, by omega⟩]
theorem sz_eq : sizeLine = 16777216 := (rfl)
theorem o_eq : eqT [x, y] = match eqB x y with | some b => some (.bl b) | none => none := (rfl)
theorem o_ne : neT [x, y] = match eqB x y with | some b => some (.bl (!b)) | none => none := (rfl)
theorem o_len_s : lenT [.str a] = if a.length ≤ sizeLine then some (.int a.length) else none := (rfl)
theorem o_list_s : listA [.str a] = if a.length ≤ sizeLine then some (.lst ((NL.sgn a).map T.str)) else none := (rfl)
theorem o_lst : lstT ts = if ts.length ≤ sizeLine then some (.lst ts) else none := (rfl)
theorem o_tup : tupT ts = if ts.length ≤ sizeLine then some (.tup ts) else none := (rfl)
theorem o_disp : dispT ks ts = if ks.Nodup ∧ ks.length = ts.length ∧ ks.length ≤ 15 then some (.dic ks ts) else none := (rfl)
theorem o_split : splitT [.str a, .str b] = if (b.length == 0) = false ∧ a.length + 2 ≤ sizeLine then some (.lst ((Txt.split a b).map T.str)) else none := (rfl)
theorem o_words : wordsT [.str a] = if a.length + 2 ≤ sizeLine then some (.lst ((Txt.words a).map T.str)) else none := (rfl)
theorem o_strip : stripT [.str a] = if a.length ≤ sizeLine then some (.str (Txt.strip a)) else none := (rfl)
theorem o_join {l : List Str} : joinT [.str a, .lst (l.map T.str)] = if (l.map (·.length)).sum + l.length * a.length ≤ 16777216 then some (.str (Txt.join a l)) else none := by
  unfold joinT
  simp only [seqT, strs_map]
theorem o_slS1 : slS true false [.str a, .int i] = if a.length ≤ sizeLine then some (.str (cutS a (some i) none)) else none := (rfl)
theorem o_slS2 : slS false true [.str a, .int i] = if a.length ≤ sizeLine then some (.str (cutS a none (some i))) else none := (rfl)
theorem o_slS3 : slS true true [.str a, .int i, .int j] = if a.length ≤ sizeLine then some (.str (cutS a (some i) (some j))) else none := (rfl)
theorem o_ixR_l : ixRA [.lst xs, .int i] = match atI xs i with
    | some t => if t.isS then some t else none
    | none => none := by
  simp only [ap_alt, ixR, seqT]
  cases atI xs i with
  | none => rfl
  | some t => cases h : t.isS <;> simp [h, dgetR, dlook]
theorem o_ixR_t : ixRA [.tup xs, .int i] = match atI xs i with
    | some t => if t.isS then some t else none
    | none => none := by
  simp only [ap_alt, ixR, seqT]
  cases atI xs i with
  | none => rfl
  | some t => cases h : t.isS <;> simp [h, dgetR, dlook]
theorem o_ix_l : ixA [.lst xs, .int i] = atI xs i := by
  simp only [ap_alt, o_ixR_l, ixR, seqT, ixD, dgetR, dgetD, dlook]
  cases atI xs i with
  | none => rfl
  | some t => cases h : t.isS <;> simp [h]
theorem o_ix_t : ixA [.tup xs, .int i] = atI xs i := by
  simp only [ap_alt, o_ixR_t, ixR, seqT, ixD, dgetR, dgetD, dlook]
  cases atI xs i with
  | none => rfl
  | some t => cases h : t.isS <;> simp [h]
theorem o_ix_s : ixA [.str a, .int i] = if a.length ≤ sizeLine then (match atI a.cps.toList i with | some c => some (.str ⟨#[c]⟩) | none => none) else none := by
  simp only [ap_alt, ixR, ixD, dgetR, dgetD, dlook]
  by_cases h : a.length ≤ sizeLine
  · simp only [if_pos h]
    cases atI a.cps.toList i <;> rfl
  · simp only [if_neg h]
theorem o_ix_d {k : Key} (h : x.key = some k) : ixA [.dic ks xs, x] = lookT ks xs k := by
  have e1 : ixR [.dic ks xs, x] = none := by cases x <;> rfl
  have e2 : ixD [.dic ks xs, x] = none := by cases x <;> rfl
  simp only [ap_alt, e1, e2, dgetR, dgetD, dlook, h]
  cases lookT ks xs k with
  | none => rfl
  | some t => cases h : t.isS <;> simp [h]
theorem o_in (h : memB x y = some c) : inA [x, y] = some (.bl c) := by
  simp only [ap_alt, inT, h]
theorem o_nin (h : memB x y = some c) : ninA [x, y] = some (.bl (!c)) := by
  simp only [ap_alt, ninT, h]
theorem o_isi {m q : String} (h : x.tyn = some m) (h2 : subB m q = some c) : isiT [x, .ty q] = some (.bl c) := by
  simp only [isiT, h, h2]
theorem tru_b : truT (.bl c) = some c := (rfl)
theorem tru_i : truT (.int i) = some (i != 0) := (rfl)
theorem tru_l : truT (.lst xs) = some (!xs.isEmpty) := (rfl)
theorem tru_n : truT .non = some false := (rfl)
theorem tru_s : truT (.str a) = if a.length ≤ sizeLine then some ((a.length : Int) != 0) else none := (rfl)
theorem ixN_nat {m n : Nat} (h : n < m) : ixN m (n : Int) = some n := by
  unfold ixN
  rw [if_pos (by omega), if_pos (by omega)]
  rfl
theorem atI_nat {α : Type} {xs : List α} {n : Nat} (h : n < xs.length) : atI xs (n : Int) = xs[n]? := by
  unfold atI
  rw [ixN_nat h]
  rfl
theorem atI0 {α : Type} {x : α} {r : List α} : atI (x :: r) 0 = some x := atI_nat (n := 0) (by simp)
theorem atI1 {α : Type} {x y : α} {r : List α} : atI (x :: y :: r) 1 = some y := atI_nat (n := 1) (by simp)
end
end NQ
namespace NQ
open PySem L2
/-! ### the law's own call -/
end NQ
namespace NQ
open PySem L2
/-! ### one-step equations that the kernel need not unfold -/
section
variable {δ r : Dl} {f : Dl → Rs} {os : List Opd} {i j : Nat} {t u : T} {ts us : List T} {q : Qf} {qs : List Qf} {l : List (Nat ⊕ T)} {s : Sh} {ss : List Sh} {k : List (Option Nat)} {x y : Option T}
theorem rnV : runs (.var i :: os) δ = match dAt δ i with
    | none => none
    | some _ => match runs os δ with
      | none => none
      | some (.error e, δ') => some (.error e, δ')
      | some (.ok l, δ') => some (.ok (.inl i :: l), δ') := (rfl)
theorem rnE : runs (.val f :: os) δ = match f δ with
    | none => none
    | some (.error e, δ') => some (.error e, δ')
    | some (.ok t, δ1) => match runs os δ1 with
      | none => none
      | some (.error e, δ') => some (.error e, δ')
      | some (.ok l, δ') => some (.ok (.inr t :: l), δ') := (rfl)
theorem evS : evq (q :: qs) δ = match q δ with
    | none => none
    | some t => match evq qs δ with
      | none => none
      | some ts => some (t :: ts) := (rfl)
theorem rsV : res (.inl i :: l) δ = match dAt δ i, res l δ with
    | some t, some ts => some (t :: ts)
    | _, _ => none := (rfl)
theorem rsE : res (.inr t :: l) δ = match res l δ with
    | some ts => some (t :: ts)
    | none => none := (rfl)
theorem sk0 : skO [] = [] := (rfl)
theorem skV : skO (.var i :: os) = some i :: skO os := (rfl)
theorem skE : skO (.val f :: os) = none :: skO os := (rfl)
theorem wb0 : wb [] k us δ = δ := by cases k <;> rfl
theorem wbV : wb (s :: ss) (some i :: k) (t :: ts) δ = wb ss k ts (if s.isO then δ.set i (some t) else δ) := (rfl)
theorem wbE : wb (s :: ss) (none :: k) (t :: ts) δ = wb ss k ts δ := by cases s <;> rfl
theorem fin0 : fin [] [] δ = some [] := by cases δ <;> rfl
theorem finS : fin (s :: ss) (t :: ts) (x :: δ) = match fin ss ts δ with
    | none => none
    | some l => if s.isO then (match x with | some u => some (u :: l) | none => none) else some (t :: l) := (rfl)
theorem isO_fz : Sh.isO .fz = false := (rfl)
theorem isO_vw : Sh.isO .vw = false := (rfl)
theorem isO_all : Sh.isO (.all s) = true := (rfl)
theorem isO_opt : Sh.isO (.opt s) = true := (rfl)
theorem isO_flds {d : List (Str × Sh)} : Sh.isO (.flds d) = true := (rfl)
theorem isO_row : Sh.isO (.row ss) = true := (rfl)
theorem wp0 : wipeD δ [] = δ := (rfl)
theorem wpS {vs : List Nat} : wipeD δ (i :: vs) = (wipeD δ vs).set i none := (rfl)
theorem st0 {α : Type} {a b : α} {l : List α} : (a :: l).set 0 b = b :: l := (rfl)
theorem stS {α : Type} {a b : α} {l : List α} {n : Nat} : (a :: l).set (n + 1) b = a :: l.set n b := (rfl)
theorem mp0 {α β : Type} {g : α → β} : [].map g = [] := (rfl)
theorem mpS {α β : Type} {g : α → β} {a : α} {l : List α} : (a :: l).map g = g a :: l.map g := (rfl)
theorem ap0 {α : Type} {l : List α} : [] ++ l = l := (rfl)
theorem apS {α : Type} {a : α} {l m : List α} : a :: l ++ m = a :: (l ++ m) := (rfl)
theorem rp0 {α : Type} {a : α} : List.replicate 0 a = [] := (rfl)
theorem rpS {α : Type} {a : α} {n : Nat} : List.replicate (n + 1) a = a :: List.replicate n a := (rfl)
end
end NQ
namespace NQ
open PySem L2
/-! ### raise -/
def sRaise (c fld : Str) (f : Dl → Rs) : Sf := fun δ => match f δ with
  | none => none
  | some (.error e, δ') => some (.exc e, δ')
  | some (.ok t, δ') => some (.exc ⟨c, fld, t⟩, δ')
section
variable {X : Cx} {K : PySem.W.Frag} {c : Cf} {Wx : WX} {e : Expr} {f : Dl → Rs} {x fld : Str} {k : Nat} {p pos pos2 : Pos}
end
/-! ### match over texts -/
/-- the cases, by the text -/
abbrev Mf := Str → Sf
def mNil : Mf := fun _ => sNext
def mCs (ks : List Str) (F : Sf) (R : Mf) : Mf := fun a => if a ∈ ks then F else R a
def mCg (ks : List Str) (g : Dl → Rb) (F : Sf) (R : Mf) : Mf := fun a => if a ∈ ks then sIf g F (R a) else R a
def mAny (F : Sf) : Mf := fun _ => F
def sMatch (f : Dl → Rs) (M : Mf) : Sf := fun δ => match f δ with
  | none => none
  | some (.error e, δ') => some (.exc e, δ')
  | some (.ok (.str a), δ') => M a δ'
  | some (.ok _, _) => none
section
variable {X : Cx} {K : PySem.W.Frag} {c : Cf} {Wx : WX} {e : Expr} {f : Dl → Rs} {F : Sf} {M : Mf} {p : Pattern} {ks : List Str} {b : List Stmt} {r : List MatchCase} {pos : Pos}
end
end NQ
namespace NQ
open PySem L2
/-! ### try: body, except x as n: suite; except x: suite -/
def Cf.xcAt (c : Cf) (i : Nat) (a d : Addr) (cl fl : Str) : Cf := { c with sh := fun j => if j = i then .xc a d cl fl else c.sh j }
/-- which classes of exceptions are of the class c; those that are have the field fl -/
def ExT (K : PySem.W.Frag) (c : Value) (fl : Str) : List (Str × Bool) → Prop
  | [] => True
  | (x, b) :: r => PySem.W.exmOne K (.ref (He.ga K x)) c = some b ∧ (b = true → XfC K (He.ga K x) ∧ PySem.W.findIn K (.ref (He.ga K x)) fl = some none) ∧ ExT K c fl r
theorem ExT.at {K : PySem.W.Frag} {c : Value} {fl : Str} : ∀ {l : List (Str × Bool)} {x : Str} {b : Bool}, ExT K c fl l → l.lookup x = some b → PySem.W.exmOne K (.ref (He.ga K x)) c = some b ∧ (b = true → XfC K (He.ga K x) ∧ PySem.W.findIn K (.ref (He.ga K x)) fl = some none)
  | [], _, _, _, h => by simp at h
  | (y, d) :: r, x, b, ⟨h1, h2, h3⟩, e => by
    rw [List.lookup_cons] at e
    split at e
    · rename_i q
      cases e
      rw [eq_of_beq q]
      exact ⟨h1, h2⟩
    · exact ExT.at h3 e
def sTryAs (m : List (Str × Bool)) (fl : Str) (i : Nat) (F : Sf) (G : Xn → Sf) : Sf := fun δ => match F δ with
  | some (.exc e, δ') => match m.lookup e.cls with
    | some true => if e.fld = fl ∧ i < δ'.length then (match G e (δ'.set i (some e.val)) with
      | some (.exc _, _) => none
      | some (fl, δ2) => some (fl, δ2.set i none)
      | none => none) else none
    | some false => some (.exc e, δ')
    | none => none
  | r => r
/-- the same without the exception's name -/
def ExO (K : PySem.W.Frag) (c : Value) : List (Str × Bool) → Prop
  | [] => True
  | (x, b) :: r => PySem.W.exmOne K (.ref (He.ga K x)) c = some b ∧ ExO K c r
theorem ExO.at {K : PySem.W.Frag} {c : Value} : ∀ {l : List (Str × Bool)} {x : Str} {b : Bool}, ExO K c l → l.lookup x = some b → PySem.W.exmOne K (.ref (He.ga K x)) c = some b
  | [], _, _, _, h => by simp at h
  | (y, d) :: r, x, b, ⟨h1, h2⟩, e => by
    rw [List.lookup_cons] at e
    split at e
    · rename_i q
      cases e
      rw [eq_of_beq q]
      exact h1
    · exact ExO.at h2 e
def sTry (m : List (Str × Bool)) (F : Sf) (G : Sf) : Sf := fun δ => match F δ with
  | some (.exc e, δ') => match m.lookup e.cls with
    | some true => (match G δ' with
      | some (.exc _, _) => none
      | r => r)
    | some false => some (.exc e, δ')
    | none => none
  | r => r
section
variable {X : Cx} {K : PySem.W.Frag} {c : Cf} {Wx : WX} {F : Sf} {G : Xn → Sf} {m : List (Str × Bool)} {i : Nat} {x n : Str} {cv : Value} {body suite : List Stmt} {b₀ : Stmt} {np pos pos' : Pos}
/-! ### in the suite: e.f, isinstance(e, C) -/
variable {sh : Nat → Sh} {a d : Addr} {oe : Obj} {pn : List (Addr × Obj)} {cl fl : Str} {o : Expr}
end
end NQ
namespace NQ
open PySem L2
/-! ### walking through the pure functions: what comes of them, wished for -/
/-- a state that is to be written out -/
def Nm (X : Dl) (P : Dl → Prop) : Prop := P X
theorem nm_eq {X Y : Dl} {P : Dl → Prop} (e : X = Y) (z : P Y) : Nm X P := by subst e; exact z
def Is {α : Type} (t : T) (mk : α → T) (P : α → Prop) : Prop := ∃ k, t = mk k ∧ P k
theorem is_mk {α : Type} {k : α} {mk : α → T} {P : α → Prop} (z : P k) : Is (mk k) mk P := ⟨k, rfl, z⟩
def At (δ : Dl) (i : Nat) (P : T → Prop) : Prop := ∃ t, dAt δ i = some t ∧ P t
theorem at_mk {δ : Dl} {i : Nat} {t : T} {P : T → Prop} (e : dAt δ i = some t) (z : P t) : At δ i P := ⟨t, e, z⟩
def So {α : Type} (o : Option α) (P : α → Prop) : Prop := ∃ t, o = some t ∧ P t
theorem so_mk {α : Type} {o : Option α} {t : α} {P : α → Prop} (e : o = some t) (z : P t) : So o P := ⟨t, e, z⟩
def S2 {α β : Type} (o : Option (α × β)) (P : α → β → Prop) : Prop := ∃ t u, o = some (t, u) ∧ P t u
theorem s2_mk {α β : Type} {o : Option (α × β)} {t : α} {u : β} {P : α → β → Prop} (e : o = some (t, u)) (z : P t u) : S2 o P := ⟨t, u, e, z⟩
def Sd (c P : Prop) : Prop := c ∧ P
theorem sd_mk {c P : Prop} (h : c) (z : P) : Sd c P := ⟨h, z⟩
def Fn (ps : List Sh) (ts : List T) (δ : Dl) (P : List T → Prop) : Prop := ∃ l, fin ps ts δ = some l ∧ P l
theorem fn_mk {ps : List Sh} {ts : List T} {δ : Dl} {l : List T} {P : List T → Prop} (e : fin ps ts δ = some l) (z : P l) : Fn ps ts δ P := ⟨l, e, z⟩
def Ws (r : Ss) (N B C : Dl → Prop) (R : T → Dl → Prop) (E : Xn → Dl → Prop) : Prop := match r with
  | none => False
  | some (.nx, δ) => N δ
  | some (.brk, δ) => B δ
  | some (.cont, δ) => C δ
  | some (.ret t, δ) => R t δ
  | some (.exc e, δ) => E e δ
def We (r : Rs) (Q : T → Dl → Prop) (E : Xn → Dl → Prop) : Prop := match r with
  | none => False
  | some (.ok t, δ) => Q t δ
  | some (.error e, δ) => E e δ
def Wq (r : Option T) (Q : T → Prop) : Prop := match r with
  | none => False
  | some t => Q t
def Wb (r : Rb) (Q : Bool → Dl → Prop) (E : Xn → Dl → Prop) : Prop := match r with
  | none => False
  | some (.ok t, δ) => Q t δ
  | some (.error e, δ) => E e δ
def Wt (r : Option Bool) (Q : Bool → Prop) : Prop := match r with
  | none => False
  | some t => Q t
def Wl (r : Option (List T)) (Q : List T → Prop) : Prop := match r with
  | none => False
  | some t => Q t
def Wa (os : List Opd) (δ : Dl) (Q : List T → Dl → Prop) (E : Xn → Dl → Prop) : Prop := match runs os δ with
  | none => False
  | some (.error e, δ') => E e δ'
  | some (.ok l, δ') => match res l δ' with
    | none => False
    | some ts => Q ts δ'
def Wi (r : Option (Except Xn (List T) × Dl)) (Q : List T → Dl → Prop) (E : Xn → Dl → Prop) : Prop := match r with
  | none => False
  | some (.ok t, δ) => Q t δ
  | some (.error e, δ) => E e δ
def Wd (r : Option Dl) (Q : Dl → Prop) : Prop := match r with
  | none => False
  | some t => Q t
def Wf (r : Fo) (R : T → List T → Prop) (E : Xn → List T → Prop) : Prop := match r with
  | none => False
  | some (.ret t, l) => R t l
  | some (.exc e, l) => E e l
theorem wf_eq {r : Fo} {t : T} {l : List T} {R : T → List T → Prop} {E : Xn → List T → Prop} (e : r = some (.ret t, l)) (h : R t l) : Wf r R E := by rw [e]; exact h
theorem wf_eqX {r : Fo} {x : Xn} {l : List T} {R : T → List T → Prop} {E : Xn → List T → Prop} (e : r = some (.exc x, l)) (h : E x l) : Wf r R E := by rw [e]; exact h
theorem wf_or {r : Fo} {P : T → List T → Prop} {P2 : Xn → List T → Prop} (h : Wf r P P2) : (∃ t l, r = some (.ret t, l) ∧ P t l) ∨ ∃ e l, r = some (.exc e, l) ∧ P2 e l := by
  unfold Wf at h
  split at h
  · exact h.elim
  · exact .inl ⟨_, _, rfl, h⟩
  · exact .inr ⟨_, _, rfl, h⟩
theorem we_c {r : Rs} {Q : T → Dl → Prop} {E : Xn → Dl → Prop} (h : We r Q E) : (∃ t δ, r = some (.ok t, δ) ∧ Q t δ) ∨ ∃ e δ, r = some (.error e, δ) ∧ E e δ := by
  unfold We at h
  split at h
  · exact h.elim
  · exact .inl ⟨_, _, rfl, h⟩
  · exact .inr ⟨_, _, rfl, h⟩
theorem wb_c {r : Rb} {Q : Bool → Dl → Prop} {E : Xn → Dl → Prop} (h : Wb r Q E) : (∃ t δ, r = some (.ok t, δ) ∧ Q t δ) ∨ ∃ e δ, r = some (.error e, δ) ∧ E e δ := by
  unfold Wb at h
  split at h
  · exact h.elim
  · exact .inl ⟨_, _, rfl, h⟩
  · exact .inr ⟨_, _, rfl, h⟩
theorem wi_c {r : Option (Except Xn (List T) × Dl)} {Q : List T → Dl → Prop} {E : Xn → Dl → Prop} (h : Wi r Q E) : (∃ t δ, r = some (.ok t, δ) ∧ Q t δ) ∨ ∃ e δ, r = some (.error e, δ) ∧ E e δ := by
  unfold Wi at h
  split at h
  · exact h.elim
  · exact .inl ⟨_, _, rfl, h⟩
  · exact .inr ⟨_, _, rfl, h⟩
theorem wa_c {os : List Opd} {δ : Dl} {Q : List T → Dl → Prop} {E : Xn → Dl → Prop} (h : Wa os δ Q E) : (∃ l δ' ts, runs os δ = some (.ok l, δ') ∧ res l δ' = some ts ∧ Q ts δ') ∨ ∃ e δ', runs os δ = some (.error e, δ') ∧ E e δ' := by
  unfold Wa at h
  split at h
  · exact h.elim
  · rename_i e; exact .inr ⟨_, _, e, h⟩
  · rename_i e
    split at h
    · exact h.elim
    · rename_i e2; exact .inl ⟨_, _, _, e, e2, h⟩
theorem wt_ex {r : Option Bool} {P : Bool → Prop} (h : Wt r P) : ∃ t, r = some t ∧ P t := by
  cases r with
  | none => exact h.elim
  | some t => exact ⟨t, rfl, h⟩
theorem wl_ex {r : Option (List T)} {P : List T → Prop} (h : Wl r P) : ∃ t, r = some t ∧ P t := by
  cases r with
  | none => exact h.elim
  | some t => exact ⟨t, rfl, h⟩
theorem wd_ex {r : Option Dl} {P : Dl → Prop} (h : Wd r P) : ∃ t, r = some t ∧ P t := by
  cases r with
  | none => exact h.elim
  | some t => exact ⟨t, rfl, h⟩
theorem ws_c {r : Ss} {N B C : Dl → Prop} {R : T → Dl → Prop} {E : Xn → Dl → Prop} (h : Ws r N B C R E) : ∃ f δ, r = some (f, δ) ∧ Ws (some (f, δ)) N B C R E := by
  cases r with
  | none => exact h.elim
  | some p => exact ⟨p.1, p.2, rfl, h⟩
theorem wq_eq {r : Option T} {t : T} {R : T → Prop} (e : r = some t) (h : R t) : Wq r R := by rw [e]; exact h
theorem wq_ex {r : Option T} {P : T → Prop} (h : Wq r P) : ∃ t, r = some t ∧ P t := by
  cases r with
  | none => exact h.elim
  | some t => exact ⟨t, rfl, h⟩
section
variable {F G : Sf} {f g h : Dl → Rs} {u v w : Qf} {a b : Qb} {t s : Dl → Rb} {δ δ2 : Dl} {i : Nat} {op op' : Op} {fs : List Qf} {os : List Opd} {x y : T} {ts : List T} {gp : Gf} {gs : Gfs} {its : Il}
variable {N B C : Dl → Prop} {R : T → Dl → Prop} {E : Xn → Dl → Prop} {Q : T → Dl → Prop} {q : T → Prop} {QB : Bool → Dl → Prop} {qb : Bool → Prop} {QL : List T → Dl → Prop} {ql : List T → Prop} {QD : Dl → Prop}
/-! statements -/
theorem ws_seq (z : Ws (F δ) (fun δ' => Ws (G δ') N B C R E) B C R E) : Ws (sSeq F G δ) N B C R E := by
  unfold sSeq
  cases e : F δ with
  | none => rw [e] at z; exact z.elim
  | some p =>
    obtain ⟨fl, δ'⟩ := p
    rw [e] at z
    cases fl <;> exact z
theorem ws_next (z : N δ) : Ws (sNext δ) N B C R E := z
theorem ws_brk (z : B δ) : Ws (sBrk δ) N B C R E := z
theorem ws_cont (z : C δ) : Ws (sCont δ) N B C R E := z
theorem ws_set (z : We (f δ) (fun t δ' => Nm (δ'.set i (some t)) N) E) : Ws (sSet i f δ) N B C R E := by
  rw [ap_set]
  rcases we_c z with ⟨t0, d0, e0, z⟩ | ⟨t0, d0, e0, z⟩ <;> simp only [e0]
  · exact z
  · exact z
theorem ws_setN (z : We (f δ) (fun t δ' => Sd (i < δ'.length) (Nm (δ'.set i (some t)) N)) E) : Ws (sSetN i f δ) N B C R E := by
  rw [ap_setN]
  rcases we_c z with ⟨t0, d0, e0, z⟩ | ⟨t0, d0, e0, z⟩ <;> simp only [e0]
  · simp only [z.1, if_true]; exact z.2
  · exact z
theorem ws_drop (z : We (f δ) (fun t δ' => N δ') E) : Ws (sDrop f δ) N B C R E := by
  rw [ap_drop]
  rcases we_c z with ⟨t0, d0, e0, z⟩ | ⟨t0, d0, e0, z⟩ <;> simp only [e0]
  · exact z
  · exact z
theorem ws_ret (z : We (f δ) (fun t δ' => R t δ') E) : Ws (sRet f δ) N B C R E := by
  rw [ap_ret]
  rcases we_c z with ⟨t0, d0, e0, z⟩ | ⟨t0, d0, e0, z⟩ <;> simp only [e0]
  · exact z
  · exact z
theorem ws_retV (e : dAt δ i = some x) (z : Nm (δ.set i none) (R x)) : Ws (sRetV i δ) N B C R E := by
  rw [ap_retV, e]; exact z
theorem ws_retN (z : R .non δ) : Ws (sRetN δ) N B C R E := z
theorem ws_if (z : Wb (t δ) (fun c δ' => if c = true then Ws (F δ') N B C R E else Ws (G δ') N B C R E) E) : Ws (sIf t F G δ) N B C R E := by
  rw [ap_if]
  rcases wb_c z with ⟨t0, d0, e0, z⟩ | ⟨t0, d0, e0, z⟩ <;> simp only [e0]
  · cases t0 <;> exact z
  · exact z
theorem ws_for (z : Wi (its δ) (fun ts δ' => Ws (forM ts gp F δ') N B C R E) E) : Ws (sFor its gp F δ) N B C R E := by
  rw [ap_for]
  rcases wi_c z with ⟨t0, d0, e0, z⟩ | ⟨t0, d0, e0, z⟩ <;> simp only [e0]
  · exact z
  · exact z
theorem ws_setIx (z : We (f δ) (fun w δ' => Wq (u δ') fun k => Is k T.int fun n => At δ' i fun x => Is x T.lst fun us => So (setAt us n w) fun us' => Nm (δ'.set i (some (.lst us'))) N) E) : Ws (sSetIx i u f δ) N B C R E := by
  rw [ap_setIx]
  rcases we_c z with ⟨t0, d0, e0, z⟩ | ⟨t0, d0, e0, z⟩ <;> simp only [e0]
  · obtain ⟨k, e1, n, rfl, x, e2, us, rfl, us', e3, z⟩ := wq_ex z
    simp only [e1, e2, e3]; exact z
  · exact z
theorem ws_aug (e : dAt δ i = some x) (z : We (f δ) (fun y δ' => Wq (op [x, y]) fun c => Nm (δ'.set i (some c)) N) E) : Ws (sAug i op f δ) N B C R E := by
  rw [ap_aug, e]
  rcases we_c z with ⟨t0, d0, e0, z⟩ | ⟨t0, d0, e0, z⟩ <;> simp only [e0]
  · obtain ⟨c, e1, z⟩ := wq_ex z
    simp only [e1]; exact z
  · exact z
theorem ws_asg (z : We (f δ) (fun t δ' => Wd (gp t δ') N) E) : Ws (sAsg f gp δ) N B C R E := by
  rw [ap_asg]
  rcases we_c z with ⟨t0, d0, e0, z⟩ | ⟨t0, d0, e0, z⟩ <;> simp only [e0]
  ·
    obtain ⟨c0, e0, z⟩ := wd_ex z
    simp only [e0]; exact z
  · exact z
theorem ws_frz (e : dAt δ i = some x) (z : Ws (F δ) (fun δ' => Nm (δ'.set i none) N) (fun δ' => Nm (δ'.set i none) B) (fun δ' => Nm (δ'.set i none) C) (fun t δ' => Nm (δ'.set i none) (R t)) (fun x δ' => Nm (δ'.set i none) (E x))) : Ws (sFrz i F δ) N B C R E := by
  unfold Nm at z
  try dsimp only at z
  rw [ap_frz, e]
  unfold Ws at z
  split at z
  · exact z.elim
  · rename_i e; simp only [e]; exact z
  · rename_i e; simp only [e]; exact z
  · rename_i e; simp only [e]; exact z
  · rename_i e; simp only [e]; exact z
  · rename_i e; simp only [e]; exact z
theorem ws_raise {c fl : Str} (z : We (f δ) (fun t δ' => E ⟨c, fl, t⟩ δ') E) : Ws (sRaise c fl f δ) N B C R E := by
  unfold sRaise
  rcases we_c z with ⟨t0, d0, e0, z⟩ | ⟨t0, d0, e0, z⟩ <;> simp only [e0]
  · exact z
  · exact z
theorem ws_match {M : Mf} (z : We (f δ) (fun t δ' => Is t T.str fun k => Ws (M k δ') N B C R E) E) : Ws (sMatch f M δ) N B C R E := by
  unfold sMatch
  rcases we_c z with ⟨t0, d0, e0, z⟩ | ⟨t0, d0, e0, z⟩ <;> simp only [e0]
  · obtain ⟨k, rfl, z⟩ := z; exact z
  · exact z
theorem ws_mNil {k : Str} (z : N δ) : Ws (mNil k δ) N B C R E := z
theorem ws_mAny {k : Str} (z : Ws (F δ) N B C R E) : Ws (mAny F k δ) N B C R E := z
theorem ws_mCs {k : Str} {ks : List Str} {M : Mf} (z : if decide (k ∈ ks) = true then Ws (F δ) N B C R E else Ws (M k δ) N B C R E) : Ws (mCs ks F M k δ) N B C R E := by
  unfold mCs
  by_cases h : k ∈ ks
  · rw [if_pos h]; rw [decide_eq_true h, if_pos rfl] at z; exact z
  · rw [if_neg h]; rw [decide_eq_false h, if_neg Bool.false_ne_true] at z; exact z
theorem ws_mCg {k : Str} {ks : List Str} {M : Mf} (z : if decide (k ∈ ks) = true then Ws (sIf t F (M k) δ) N B C R E else Ws (M k δ) N B C R E) : Ws (mCg ks t F M k δ) N B C R E := by
  unfold mCg
  by_cases h : k ∈ ks
  · rw [if_pos h]; rw [decide_eq_true h, if_pos rfl] at z; exact z
  · rw [if_neg h]; rw [decide_eq_false h, if_neg Bool.false_ne_true] at z; exact z
theorem ws_tryAs {m : List (Str × Bool)} {fl : Str} {H : Xn → Sf} (z : Ws (F δ) N B C R fun e δ' => So (m.lookup e.cls) fun b => if b = true then Sd (e.fld = fl ∧ i < δ'.length) (Nm (δ'.set i (some e.val)) fun δ2 => Ws (H e δ2) (fun δ2 => Nm (δ2.set i none) N) (fun δ2 => Nm (δ2.set i none) B) (fun δ2 => Nm (δ2.set i none) C) (fun t δ2 => Nm (δ2.set i none) (R t)) fun _ _ => False) else E e δ') : Ws (sTryAs m fl i F H δ) N B C R E := by
  unfold sTryAs
  cases e : F δ with
  | none => rw [e] at z; exact z.elim
  | some p =>
    obtain ⟨fl, δ'⟩ := p
    rw [e] at z
    cases fl with
    | exc er =>
      obtain ⟨b, h1, z⟩ := z
      cases b with
      | true =>
        obtain ⟨h2, z⟩ := z
        simp only [h1, h2, if_true]
        unfold Nm at z
        try dsimp only at z
        cases e2 : H er (δ'.set i (some er.val)) with
        | none => rw [e2] at z; exact z.elim
        | some p =>
          obtain ⟨fl, δ2⟩ := p
          rw [e2] at z
          cases fl <;> first | exact z | exact z.elim
      | false => simp only [h1]; exact z
    | nx => exact z
    | brk => exact z
    | cont => exact z
    | ret _ => exact z
theorem ws_try {m : List (Str × Bool)} {H : Sf} (z : Ws (F δ) N B C R fun e δ' => So (m.lookup e.cls) fun b => if b = true then Ws (H δ') N B C R fun _ _ => False else E e δ') : Ws (sTry m F H δ) N B C R E := by
  unfold sTry
  cases e : F δ with
  | none => rw [e] at z; exact z.elim
  | some p =>
    obtain ⟨fl, δ'⟩ := p
    rw [e] at z
    cases fl with
    | exc er =>
      obtain ⟨b, h1, z⟩ := z
      cases b with
      | true =>
        simp only [h1]
        have z : Ws (H δ') N B C R fun _ _ => False := z
        cases e2 : H δ' with
        | none => rw [e2] at z; exact z.elim
        | some p =>
          obtain ⟨fl, δ2⟩ := p
          rw [e2] at z
          cases fl <;> first | exact z | exact z.elim
      | false => simp only [h1]; exact z
    | nx => exact z
    | brk => exact z
    | cont => exact z
    | ret _ => exact z
/-! loops -/
/-! expressions -/
theorem we_qE (z : Wq (u δ) fun t => Q t δ) : We (qE u δ) Q E := by
  rw [ap_qE]
  obtain ⟨c0, e0, z⟩ := wq_ex z
  simp only [e0]
  exact z
theorem we_opn (z : Wa os δ (fun ts δ' => Wq (op ts) fun c => Q c δ') E) : We (opn op os δ) Q E := by
  rw [ap_opn]
  rcases wa_c z with ⟨l0, d0, ts0, e1, e2, z⟩ | ⟨t0, d0, e1, z⟩ <;> simp only [e1]
  rotate_left
  · exact z
  · simp only [e2]
    obtain ⟨c, e3, z⟩ := wq_ex z
    simp only [e3]; exact z
theorem we_opnc (z : Wa os δ (fun ts δ' => Wq (op ts) fun c => Q c δ') fun _ _ => False) : We (opnc op os δ) Q E := by
  rw [ap_opnc]
  rcases wa_c z with ⟨l0, d0, ts0, e1, e2, z⟩ | ⟨t0, d0, e1, z⟩ <;> simp only [e1]
  rotate_left
  · exact z.elim
  · simp only [e2]
    obtain ⟨c, e3, z⟩ := wq_ex z
    simp only [e3]; exact z
theorem we_disp {ks : List Key} (z : We (opn (dispT ks) os δ) Q E) : We (fDisp ks os δ) Q E := z
theorem we_call {ps : List Sh} {Ff : List T → Fo} (z : Wa os δ (fun ts δ' => Wf (Ff ts) (fun t l => Sd (l.length = ps.length) (Nm (wb ps (skO os) l δ') (Q t))) fun e l => Sd (l.length = ps.length) (Nm (wb ps (skO os) l δ') (E e))) E) : We (fCall ps Ff os δ) Q E := by
  rw [ap_call]
  rcases wa_c z with ⟨l0, d0, ts0, e1, e2, z⟩ | ⟨t0, d0, e1, z⟩
  · simp only [e1, e2]
    rcases wf_or z with ⟨t, l, e3, h, z⟩ | ⟨t, l, e3, h, z⟩
    · simp only [e3, h, if_true]; exact z
    · simp only [e3, h, if_true]; exact z
  · simp only [e1]; exact z
theorem we_app (z : At δ i fun x => Is x T.lst fun us0 => We (f δ) (fun t δ' => At δ' i fun x => Is x T.lst fun us => Sd (us.length < sizeLine) (Nm (δ'.set i (some (.lst (us ++ [t])))) (Q .non))) E) : We (fApp i f δ) Q E := by
  obtain ⟨_, e0, us0, rfl, z⟩ := z
  rw [ap_app, e0]
  rcases we_c z with ⟨t0, d0, e0, z⟩ | ⟨t0, d0, e0, z⟩ <;> simp only [e0]
  · obtain ⟨_, e1, us, rfl, h, z⟩ := z
    simp only [e1, h, if_true]; exact z
  · exact z
theorem we_if (z : Wb (t δ) (fun c δ' => if c = true then We (f δ') Q E else We (g δ') Q E) E) : We (ifE t f g δ) Q E := by
  rw [ap_ifE]
  rcases wb_c z with ⟨t0, d0, e0, z⟩ | ⟨t0, d0, e0, z⟩ <;> simp only [e0]
  · cases t0 <;> exact z
  · exact z
theorem we_andW (z : We (f δ) (fun t δ' => Wt (truW t) fun c => if c = true then We (g δ') Q E else Q t δ') E) : We (andW f g δ) Q E := by
  rw [ap_andW]
  rcases we_c z with ⟨t0, d0, e0, z⟩ | ⟨t0, d0, e0, z⟩ <;> simp only [e0]
  ·
    obtain ⟨c0, e0, z⟩ := wt_ex z
    simp only [e0]
    cases c0 <;> exact z
  · exact z
theorem we_orW (z : We (f δ) (fun t δ' => Wt (truW t) fun c => if c = true then Q t δ' else We (g δ') Q E) E) : We (orW f g δ) Q E := by
  rw [ap_orW]
  rcases we_c z with ⟨t0, d0, e0, z⟩ | ⟨t0, d0, e0, z⟩ <;> simp only [e0]
  ·
    obtain ⟨c0, e0, z⟩ := wt_ex z
    simp only [e0]
    cases c0 <;> exact z
  · exact z
theorem we_lc {vs : List Nat} (z : Wi (its δ) (fun ts δ' => Sd (ts.length < sizeLine) (Nm (wipeD δ' vs) fun δ3 => S2 (lcL gp t f vs ts δ3) fun us δ2 => Q (.lst us) δ2)) E) : We (lcE its gp t f vs δ) Q E := by
  rw [ap_lcE]
  rcases wi_c z with ⟨t0, d0, e0, z⟩ | ⟨t0, d0, e0, z⟩ <;> simp only [e0]
  · obtain ⟨h, us, δ2, e, z⟩ := z
    simp only [h, if_true, e]; exact z
  · exact z
/-! operands -/
theorem wa_nil (z : QL [] δ) : Wa [] δ QL E := z
theorem wa_val (z : We (f δ) (fun t δ1 => Wa os δ1 (fun us δ' => QL (t :: us) δ') E) E) : Wa (.val f :: os) δ QL E := by
  unfold Wa
  rw [rnE]
  rcases we_c z with ⟨t0, d0, e0, z⟩ | ⟨t0, d0, e0, z⟩
  · simp only [e0]
    rcases wa_c z with ⟨l0, d1, ts0, e1, e2, z⟩ | ⟨x0, d1, e1, z⟩
    · simp only [e1, rsE, e2]; exact z
    · simp only [e1]; exact z
  · simp only [e0]; exact z
theorem wa_var (e : dAt δ i = some x) (z : Wa os δ (fun us δ' => At δ' i fun y => QL (y :: us) δ') E) : Wa (.var i :: os) δ QL E := by
  unfold Wa
  rw [rnV, e]
  rcases wa_c z with ⟨l0, d1, ts0, e1, e2, y, e3, z⟩ | ⟨x0, d1, e1, z⟩
  · simp only [e1, rsV, e2, e3]; exact z
  · simp only [e1]; exact z
theorem wl_nil (z : ql []) : Wl (evq [] δ) ql := z
theorem wl_cons (z : Wq (u δ) fun t => Wl (evq fs δ) fun us => ql (t :: us)) : Wl (evq (u :: fs) δ) ql := by
  rw [evS]
  obtain ⟨c0, e0, z⟩ := wq_ex z
  obtain ⟨c1, e1, z⟩ := wl_ex z
  simp only [e0, e1]; exact z
/-! quiet ones -/
theorem wq_opq (z : Wl (evq fs δ) fun ts => Wq (op ts) q) : Wq (opq op fs δ) q := by
  rw [ap_opq]
  obtain ⟨c0, e0, z⟩ := wl_ex z
  simp only [e0]
  exact z
theorem wq_eV (e : dAt δ i = some x) (z : q x) : Wq (eV i δ) q := by rw [ap_eV, e]; exact z
theorem wq_eC (z : q x) : Wq (eC x δ) q := z
theorem wq_eP {π : List Pt} (e : dAt δ i = some x) (e2 : getP x π = some y) (z : q y) : Wq (eP i π δ) q := by unfold eP; rw [e]; simp only [e2]; exact z
theorem wq_if (z : Wt (a δ) fun c => if c = true then Wq (u δ) q else Wq (v δ) q) : Wq (ifQ a u v δ) q := by
  rw [ap_ifQ]
  obtain ⟨c0, e0, z⟩ := wt_ex z
  simp only [e0]
  cases c0 <;> exact z
theorem wq_andV (z : Wq (u δ) fun t => Wt (truW t) fun c => if c = true then Wq (v δ) q else q t) : Wq (andV u v δ) q := by
  rw [ap_andV]
  obtain ⟨c0, e0, z⟩ := wq_ex z
  obtain ⟨c1, e1, z⟩ := wt_ex z
  simp only [e0, e1]
  cases c1 <;> exact z
theorem wq_orV (z : Wq (u δ) fun t => Wt (truW t) fun c => if c = true then q t else Wq (v δ) q) : Wq (orV u v δ) q := by
  rw [ap_orV]
  obtain ⟨c0, e0, z⟩ := wq_ex z
  obtain ⟨c1, e1, z⟩ := wt_ex z
  simp only [e0, e1]
  cases c1 <;> exact z
theorem wq_ch (z : Wq (u δ) fun x => Wq (v δ) fun y => Wq (op [x, y]) fun c => Is c T.bl fun k => if k = true then Wq (w δ) (fun z => Wq (op' [y, z]) q) else q (.bl false)) : Wq (chQ op op' u v w δ) q := by
  rw [ap_chQ]
  obtain ⟨x, e1, z⟩ := wq_ex z
  obtain ⟨y, e2, z⟩ := wq_ex z
  obtain ⟨c, e3, z⟩ := wq_ex z
  obtain ⟨k, rfl, z⟩ := z
  simp only [e1, e2, e3]
  cases k
  · exact z
  · rw [if_pos rfl] at z
    obtain ⟨r, e4, z⟩ := wq_ex z
    simp only [e4]; exact z
/-! tests -/
theorem wt_asB (z : Wq (u δ) fun t => Is t T.bl qb) : Wt (asB u δ) qb := by
  rw [ap_asB]
  obtain ⟨x, e1, c, rfl, z⟩ := wq_ex z
  simp only [e1]; exact z
theorem wt_asTru (z : Wq (u δ) fun t => Wt (truT t) qb) : Wt (asTru u δ) qb := by
  rw [ap_asTru]
  obtain ⟨x, e1, z⟩ := wq_ex z
  simp only [e1]; exact z
theorem wb_asBE (z : We (f δ) (fun t δ' => Is t T.bl fun c => QB c δ') E) : Wb (asBE f δ) QB E := by
  rw [ap_asBE]
  rcases we_c z with ⟨t0, d0, e0, z⟩ | ⟨t0, d0, e0, z⟩ <;> simp only [e0]
  · obtain ⟨c, rfl, z⟩ := z; exact z
  · exact z
theorem wb_asTruE (z : We (f δ) (fun t δ' => Wt (truT t) fun c => QB c δ') E) : Wb (asTruE f δ) QB E := by
  rw [ap_asTruE]
  rcases we_c z with ⟨t0, d0, e0, z⟩ | ⟨t0, d0, e0, z⟩ <;> simp only [e0]
  ·
    obtain ⟨c0, e0, z⟩ := wt_ex z
    simp only [e0]; exact z
  · exact z
theorem wb_qB (z : Wt (a δ) fun c => QB c δ) : Wb (qB a δ) QB E := by
  rw [ap_qB]
  obtain ⟨c0, e0, z⟩ := wt_ex z
  simp only [e0]
  exact z
theorem wb_yes (z : QB true δ) : Wb (yesB δ) QB E := z
theorem wt_not (z : Wt (a δ) fun c => qb (!c)) : Wt (notQ a δ) qb := by
  rw [ap_notQ]
  obtain ⟨c0, e0, z⟩ := wt_ex z
  simp only [e0]
  exact z
theorem wt_and (z : Wt (a δ) fun c => if c = true then Wt (b δ) qb else qb false) : Wt (andQ a b δ) qb := by
  rw [ap_andQ]
  obtain ⟨c0, e0, z⟩ := wt_ex z
  simp only [e0]
  cases c0 <;> exact z
theorem wt_or (z : Wt (a δ) fun c => if c = true then qb true else Wt (b δ) qb) : Wt (orQ a b δ) qb := by
  rw [ap_orQ]
  obtain ⟨c0, e0, z⟩ := wt_ex z
  simp only [e0]
  cases c0 <;> exact z
theorem wb_not (z : Wb (t δ) (fun c δ' => QB (!c) δ') E) : Wb (notE t δ) QB E := by
  rw [ap_notE]
  rcases wb_c z with ⟨t0, d0, e0, z⟩ | ⟨t0, d0, e0, z⟩ <;> simp only [e0]
  · exact z
  · exact z
theorem wb_and (z : Wb (t δ) (fun c δ' => if c = true then Wb (s δ') QB E else QB false δ') E) : Wb (andE t s δ) QB E := by
  rw [ap_andE]
  rcases wb_c z with ⟨t0, d0, e0, z⟩ | ⟨t0, d0, e0, z⟩ <;> simp only [e0]
  · cases t0 <;> exact z
  · exact z
theorem wb_or (z : Wb (t δ) (fun c δ' => if c = true then QB true δ' else Wb (s δ') QB E) E) : Wb (orE t s δ) QB E := by
  rw [ap_orE]
  rcases wb_c z with ⟨t0, d0, e0, z⟩ | ⟨t0, d0, e0, z⟩ <;> simp only [e0]
  · cases t0 <;> exact z
  · exact z
/-! targets, what is walked over -/
theorem wd_gN (z : Nm (δ.set i (some x)) QD) : Wd (gN i x δ) QD := z
theorem wd_gT (e : seqT x = some ts) (z : Wd (gs ts δ) QD) : Wd (gT gs x δ) QD := by rw [ap_gT, e]; exact z
theorem wd_nil (z : QD δ) : Wd (gNl [] δ) QD := z
theorem wd_cons (z : Wd (gp x δ) fun δ' => Wd (gs ts δ') QD) : Wd (gCs gp gs (x :: ts) δ) QD := by
  rw [ap_gCs]
  obtain ⟨c0, e0, z⟩ := wd_ex z
  simp only [e0]; exact z
theorem wi_it (z : We (f δ) (fun t δ' => So (itT t) fun ts => QL ts δ') E) : Wi (itE f δ) QL E := by
  rw [ap_itE]
  rcases we_c z with ⟨t0, d0, e0, z⟩ | ⟨t0, d0, e0, z⟩ <;> simp only [e0]
  · obtain ⟨us, e, z⟩ := z; simp only [e]; exact z
  · exact z
theorem wi_r1 (z : We (f δ) (fun t δ' => Is t T.int fun j => Sd (-4611686018427387904 ≤ j ∧ j < 4611686018427387904) (QL ((List.range j.toNat).map fun i => T.int (i : Nat)) δ')) E) : Wi (itR1 f δ) QL E := by
  rw [ap_itR1]
  rcases we_c z with ⟨t0, d0, e0, z⟩ | ⟨t0, d0, e0, z⟩ <;> simp only [e0]
  · obtain ⟨j, rfl, h, z⟩ := z
    have h' : -(2 ^ 62) ≤ j ∧ j < 2 ^ 62 := h
    simp only [if_pos h', Int.zero_add]; exact z
  · exact z
theorem wi_r2 (z : We (f δ) (fun t δ1 => Is t T.int fun i => We (g δ1) (fun t δ' => Is t T.int fun j => Sd (-4611686018427387904 ≤ i ∧ i < 4611686018427387904 ∧ -4611686018427387904 ≤ j ∧ j < 4611686018427387904) (QL ((List.range (j - i).toNat).map fun n => T.int (i + (n : Nat))) δ')) E) E) : Wi (itR2 f g δ) QL E := by
  rw [ap_itR2]
  rcases we_c z with ⟨t0, d0, e0, z⟩ | ⟨t0, d0, e0, z⟩ <;> simp only [e0]
  · obtain ⟨i, rfl, z⟩ := z
    simp only
    rcases we_c z with ⟨t1, d1, e1, j, rfl, h, z⟩ | ⟨t1, d1, e1, z⟩
    · have h' : -(2 ^ 62) ≤ i ∧ i < 2 ^ 62 ∧ -(2 ^ 62) ≤ j ∧ j < 2 ^ 62 := h
      simp only [e1, if_pos h']; exact z
    · simp only [e1]; exact z
  · exact z
theorem wi_en (z : We (f δ) (fun t δ' => Is t T.lst fun ts => QL (enT ts) δ') E) : Wi (itEn f δ) QL E := by
  rw [ap_itEn]
  rcases we_c z with ⟨t0, d0, e0, z⟩ | ⟨t0, d0, e0, z⟩ <;> simp only [e0]
  · obtain ⟨us, rfl, z⟩ := z; exact z
  · exact z
/-! a def -/
theorem wf_fn {ps : List Sh} {m : Nat} {rs : Sh} {RR : T → List T → Prop} {EE : Xn → List T → Prop} (z : Nm (ts.map some ++ List.replicate m none) fun δ => Ws (F δ) (fun δ => Sd (rs.nilOk = true) (Fn ps ts δ (RR .non))) (fun _ => False) (fun _ => False) (fun t δ => Fn ps ts δ (RR t)) (fun e δ => Fn ps ts δ (EE e))) : Wf (fnT ps m rs F ts) RR EE := by
  unfold Nm at z
  try dsimp only at z
  rw [ap_fn]; unfold Ws at z
  split at z
  · exact z.elim
  · rename_i e
    obtain ⟨h, l, e2, z⟩ := z
    simp only [e, h, if_true, e2]; exact z
  · exact z.elim
  · exact z.elim
  · rename_i e
    obtain ⟨l, e2, z⟩ := z
    simp only [e, e2]; exact z
  · rename_i e
    obtain ⟨l, e2, z⟩ := z
    simp only [e, e2]; exact z
theorem fin_o {s : Sh} {ss : List Sh} {l : List T} {y : T} (e : fin ss ts δ = some l) (h : s.isO = true := by rfl) : fin (s :: ss) (x :: ts) (some y :: δ) = some (y :: l) := by rw [finS, e]; simp only [h, if_true]
theorem fin_f {s : Sh} {ss : List Sh} {d : Option T} {l : List T} (e : fin ss ts δ = some l) (h : s.isO = false := by rfl) : fin (s :: ss) (x :: ts) (d :: δ) = some (x :: l) := by rw [finS, e]; simp only [h, Bool.false_eq_true, if_false]
end
end NQ
namespace NQ
open PySem L2
/-! ### the operations, wished for -/
section
variable {q : T → Prop} {qb : Bool → Prop} {a b : Str} {i j n : Int} {xs ys ts : List T} {x y c : T} {k : Bool} {f : Int → Int → Bool} {op op' : Op}
theorem wo_addi (z : q (.int (i + j))) : Wq (addR [.int i, .int j]) q := z
theorem wo_adds (h : a.length + b.length ≤ 16777216) (z : q (.str (a ++ b))) : Wq (addR [.str a, .str b]) q := by rw [o_adds, if_pos (by rw [sz_eq]; exact h)]; exact z
theorem wo_addAi (z : q (.int (i + j))) : Wq (addA [.int i, .int j]) q := z
theorem wo_addAs (h : a.length + b.length ≤ 16777216) (z : q (.str (a ++ b))) : Wq (addA [.str a, .str b]) q := by rw [o_addAs (by rw [sz_eq]; exact h)]; exact z
theorem wo_addL (h : xs.length + ys.length ≤ 16777216) (z : q (.lst (xs ++ ys))) : Wq (addL [.lst xs, .lst ys]) q := by rw [o_addL, if_pos (by rw [sz_eq]; exact h)]; exact z
theorem wo_addAl (h : xs.length + ys.length ≤ 16777216) (z : q (.lst (xs ++ ys))) : Wq (addA [.lst xs, .lst ys]) q := by rw [o_addAl, if_pos (by rw [sz_eq]; exact h)]; exact z
theorem wo_addI (z : q (.int (i + j))) : Wq (addI [.int i, .int j]) q := z
theorem wo_subI (z : q (.int (i - j))) : Wq (subI [.int i, .int j]) q := z
theorem wo_subi (z : q (.int (i - j))) : Wq (subT [.int i, .int j]) q := z
theorem wo_muliL (h1 : -18446744073709551616 < i) (h2 : i < 18446744073709551616) (z : q (.int (i * j))) : Wq (mulR [.int i, .int j]) q := by rw [o_muli, if_pos (.inl ⟨h1, h2⟩)]; exact z
theorem wo_muliR (h1 : -18446744073709551616 < j) (h2 : j < 18446744073709551616) (z : q (.int (i * j))) : Wq (mulR [.int i, .int j]) q := by rw [o_muli, if_pos (.inr (.inl ⟨h1, h2⟩))]; exact z
theorem wo_mulAL (h1 : -18446744073709551616 < i) (h2 : i < 18446744073709551616) (z : q (.int (i * j))) : Wq (mulA [.int i, .int j]) q := by rw [o_mulAi (.inl ⟨h1, h2⟩)]; exact z
theorem wo_mulAR (h1 : -18446744073709551616 < j) (h2 : j < 18446744073709551616) (z : q (.int (i * j))) : Wq (mulA [.int i, .int j]) q := by rw [o_mulAi (.inr (.inl ⟨h1, h2⟩))]; exact z
theorem wo_muls (h1 : -1048576 < n ∧ n < 1048576 ∧ a.length * n.toNat ≤ 1000000) (z : q (.str (Txt.mul a n))) : Wq (mulR [.str a, .int n]) q := by
  have h1' : -(2 ^ 20) < n ∧ n < 2 ^ 20 ∧ a.length * n.toNat ≤ 1000000 := h1
  rw [o_muls, if_pos h1']; exact z
theorem wo_mulL (h1 : -9223372036854775808 ≤ n ∧ n < 9223372036854775808 ∧ xs.length * n.toNat ≤ 16777216) (z : q (.lst (List.replicate n.toNat xs).flatten)) : Wq (mulL [.lst xs, .int n]) q := by
  have h1' : -(2 ^ 63) ≤ n ∧ n < 2 ^ 63 ∧ xs.length * n.toNat ≤ sizeLine := h1
  rw [o_mulL, if_pos h1']; exact z
theorem wo_mulAl (h1 : -9223372036854775808 ≤ n ∧ n < 9223372036854775808 ∧ xs.length * n.toNat ≤ 16777216) (z : q (.lst (List.replicate n.toNat xs).flatten)) : Wq (mulA [.lst xs, .int n]) q := by
  have h1' : -(2 ^ 63) ≤ n ∧ n < 2 ^ 63 ∧ xs.length * n.toNat ≤ sizeLine := h1
  rw [o_mulAl, if_pos h1']; exact z
theorem wo_modi (h : 0 < j) (z : q (.int (i % j))) : Wq (modT [.int i, .int j]) q := by rw [o_modi, if_pos h]; exact z
theorem wo_divi (h0 : 0 < j) (h1 : j < 1000000000000) (z : q (.int (i / j))) : Wq (divT [.int i, .int j]) q := by rw [o_divs h0 h1]; exact z
theorem wo_powi (h0 : 0 ≤ j) (h1 : j ≤ 1000000) (h2 : -18446744073709551616 < i) (h3 : i < 18446744073709551616) (z : q (.int (i ^ j.toNat))) : Wq (powT [.int i, .int j]) q := by rw [o_pows h0 h1 h2 h3]; exact z
theorem wo_cmp (z : q (.bl (f i j))) : Wq (cmpT f [.int i, .int j]) q := z
theorem wo_neg (z : q (.int (-i))) : Wq (negT [.int i]) q := z
theorem wo_eq (e : eqB x y = some k) (z : q (.bl k)) : Wq (eqT [x, y]) q := by rw [o_eq, e]; exact z
theorem wo_ne (e : eqB x y = some k) (z : q (.bl (!k))) : Wq (neT [x, y]) q := by rw [o_ne, e]; exact z
theorem wo_isN (z : q (.bl x.isN)) : Wq (isNT [x, .non]) q := z
theorem wo_notN (z : q (.bl (!x.isN))) : Wq (notNT [x, .non]) q := z
theorem wo_in (e : memB x y = some k) (z : q (.bl k)) : Wq (inA [x, y]) q := by rw [o_in e]; exact z
theorem wo_nin (e : memB x y = some k) (z : q (.bl (!k))) : Wq (ninA [x, y]) q := by rw [o_nin e]; exact z
theorem wo_len_l (z : q (.int xs.length)) : Wq (lenT [.lst xs]) q := z
theorem wo_len_t (z : q (.int xs.length)) : Wq (lenT [.tup xs]) q := z
theorem wo_len_c (z : q (.int xs.length)) : Wq (lenT [.ctup xs]) q := z
theorem wo_len_s (h : a.length ≤ 16777216) (z : q (.int a.length)) : Wq (lenT [.str a]) q := by rw [o_len_s, if_pos (by rw [sz_eq]; exact h)]; exact z
theorem wo_int_i (z : q (.int i)) : Wq (intT [.int i]) q := z
theorem wo_int_b (z : q (.int (if k then 1 else 0))) : Wq (intT [.bl k]) q := z
theorem wo_str_s (z : q (.str a)) : Wq (strT [.str a]) q := z
theorem wo_abs (z : q (.int (if i < 0 then -i else i))) : Wq (absT [.int i]) q := z
theorem wo_max (z : q (.int (if j > i then j else i))) : Wq (maxT [.int i, .int j]) q := z
theorem wo_min (z : q (.int (if j < i then j else i))) : Wq (minT [.int i, .int j]) q := z
theorem wo_list_l (z : q (.lst xs)) : Wq (listA [.lst xs]) q := z
theorem wo_list_t (z : q (.lst xs)) : Wq (listA [.tup xs]) q := z
theorem wo_list_c (z : q (.lst xs)) : Wq (listA [.ctup xs]) q := z
theorem wo_list_s (h : a.length ≤ 16777216) (z : q (.lst ((NL.sgn a).map T.str))) : Wq (listA [.str a]) q := by rw [o_list_s, if_pos (by rw [sz_eq]; exact h)]; exact z
theorem wo_tuple (z : q (.tup xs)) : Wq (tupleL [.lst xs]) q := z
theorem wo_lst (h : ts.length ≤ 16777216) (z : q (.lst ts)) : Wq (lstT ts) q := by rw [o_lst, if_pos (by rw [sz_eq]; exact h)]; exact z
theorem wo_tup (h : ts.length ≤ 16777216) (z : q (.tup ts)) : Wq (tupT ts) q := by rw [o_tup, if_pos (by rw [sz_eq]; exact h)]; exact z
theorem wo_disp {ks : List Key} (h1 : ks.Nodup) (h2 : ks.length = ts.length) (h3 : ks.length ≤ 15) (z : q (.dic ks ts)) : Wq (dispT ks ts) q := by rw [o_disp, if_pos ⟨h1, h2, h3⟩]; exact z
theorem wo_split (h1 : (b.length == 0) = false) (h2 : a.length ≤ 16777214) (z : q (.lst ((Txt.split a b).map T.str))) : Wq (splitT [.str a, .str b]) q := by rw [o_split, if_pos ⟨h1, by rw [sz_eq]; omega⟩]; exact z
theorem wo_words (h2 : a.length ≤ 16777214) (z : q (.lst ((Txt.words a).map T.str))) : Wq (wordsT [.str a]) q := by rw [o_words, if_pos (by rw [sz_eq]; omega)]; exact z
theorem wo_strip (h2 : a.length ≤ 16777216) (z : q (.str (Txt.strip a))) : Wq (stripT [.str a]) q := by rw [o_strip, if_pos (by rw [sz_eq]; exact h2)]; exact z
theorem wo_join {l : List Str} (e : ts = l.map T.str) (h : (l.map (·.length)).sum + l.length * a.length ≤ 16777216) (z : q (.str (Txt.join a l))) : Wq (joinT [.str a, .lst ts]) q := by subst e; rw [o_join, if_pos h]; exact z
theorem wo_slS1 (h : a.length ≤ 16777216) (z : q (.str (cutS a (some i) none))) : Wq (slS true false [.str a, .int i]) q := by rw [o_slS1, if_pos (by rw [sz_eq]; exact h)]; exact z
theorem wo_slS2 (h : a.length ≤ 16777216) (z : q (.str (cutS a none (some i)))) : Wq (slS false true [.str a, .int i]) q := by rw [o_slS2, if_pos (by rw [sz_eq]; exact h)]; exact z
theorem wo_slS3 (h : a.length ≤ 16777216) (z : q (.str (cutS a (some i) (some j)))) : Wq (slS true true [.str a, .int i, .int j]) q := by rw [o_slS3, if_pos (by rw [sz_eq]; exact h)]; exact z
theorem wo_slL1 (z : q (.lst (cutT xs (some i) none))) : Wq (slL true false [.lst xs, .int i]) q := z
theorem wo_slL2 (z : q (.lst (cutT xs none (some i)))) : Wq (slL false true [.lst xs, .int i]) q := z
theorem wo_slL3 (z : q (.lst (cutT xs (some i) (some j)))) : Wq (slL true true [.lst xs, .int i, .int j]) q := z
theorem wo_ixR_l (e : atI xs i = some x) (h : x.isS = true) (z : q x) : Wq (ixRA [.lst xs, .int i]) q := by rw [o_ixR_l, e]; simp only [h, if_true]; exact z
theorem wo_ixR_t (e : atI xs i = some x) (h : x.isS = true) (z : q x) : Wq (ixRA [.tup xs, .int i]) q := by rw [o_ixR_t, e]; simp only [h, if_true]; exact z
theorem wo_ix_l (e : atI xs i = some x) (z : q x) : Wq (ixA [.lst xs, .int i]) q := by rw [o_ix_l, e]; exact z
theorem wo_ix_t (e : atI xs i = some x) (z : q x) : Wq (ixA [.tup xs, .int i]) q := by rw [o_ix_t, e]; exact z
theorem wo_ix_s {c : Nat} (e : atI a.cps.toList i = some c) (h : a.length ≤ 16777216) (z : q (.str ⟨#[c]⟩)) : Wq (ixA [.str a, .int i]) q := by rw [o_ix_s, if_pos (by rw [sz_eq]; exact h), e]; exact z
theorem wo_ix_d {ks : List Key} {kk : Key} (h : x.key = some kk) (e : lookT ks xs kk = some y) (z : q y) : Wq (ixA [.dic ks xs, x]) q := by rw [o_ix_d h, e]; exact z
theorem wo_isi {m p : String} (h : x.tyn = some m) (h2 : subB m p = some k) (z : q (.bl k)) : Wq (isiT [x, .ty p]) q := by rw [o_isi h h2]; exact z
theorem wt_b (z : qb k) : Wt (truT (.bl k)) qb := z
theorem wt_i (z : qb (i != 0)) : Wt (truT (.int i)) qb := z
theorem wt_l (z : qb (!xs.isEmpty)) : Wt (truT (.lst xs)) qb := z
theorem wt_n (z : qb false) : Wt (truT .non) qb := z
theorem wt_s (h : a.length ≤ 16777216) (z : qb ((a.length : Int) != 0)) : Wt (truT (.str a)) qb := by rw [tru_s, if_pos (by rw [sz_eq]; exact h)]; exact z
theorem wtw_b (z : qb k) : Wt (truW (.bl k)) qb := z
theorem wtw_n (z : qb false) : Wt (truW .non) qb := z
theorem wtw_i (z : qb (i != 0)) : Wt (truW (.int i)) qb := z
theorem wtw_l (z : qb (!xs.isEmpty)) : Wt (truW (.lst xs)) qb := z
/-! equality of scalars -/
theorem eqB_ii : eqB (.int i) (.int j) = some (decide (i = j)) := by
  unfold eqB
  simp only [T.pd]
  by_cases h : i = j <;> simp [PyData.depth, PyData.eqv, h]
theorem eqB_ss : eqB (.str a) (.str b) = some (decide (a = b)) := by
  unfold eqB
  simp only [T.pd]
  by_cases h : a = b <;> simp [PyData.depth, PyData.eqv, h]
theorem ite_t {A B : Prop} {k : Bool} (e : k = true) (z : A) : if k = true then A else B := by rw [if_pos e]; exact z
theorem ite_f {A B : Prop} {k : Bool} (e : k = false) (z : B) : if k = true then A else B := by rw [if_neg (by rw [e]; exact Bool.false_ne_true)]; exact z
end
end NQ
namespace NQ
open PySem L2
/-! ### equality of plain data: no truth values, no written tuples -/
def T.pl : Nat → T → Bool
  | _, .non => true
  | _, .int _ => true
  | _, .str _ => true
  | n + 1, .lst ts => ts.all (T.pl n)
  | n + 1, .tup ts => ts.all (T.pl n)
  | _, _ => false
theorem pd_lst {ts : List T} {ds : List PyData} (h : pdL ts = some ds) : (T.lst ts).pd = some (.list ds) := by
  show (match pdL ts with | some ds => some (PyData.list ds) | none => none) = _
  rw [h]
theorem pd_tup {ts : List T} {ds : List PyData} (h : pdL ts = some ds) : (T.tup ts).pd = some (.tuple ds) := by
  show (match pdL ts with | some ds => some (PyData.tuple ds) | none => none) = _
  rw [h]
theorem pl_pds {n : Nat} (ih : ∀ {x : T}, T.pl n x = true → ∃ d, x.pd = some d ∧ d.depth ≤ n + 1) : ∀ {ts : List T}, ts.all (T.pl n) = true → ∃ ds, pdL ts = some ds ∧ PyData.depthAll ds ≤ n + 1
  | [], _ => ⟨[], rfl, Nat.zero_le _⟩
  | t :: r, h => by
    rw [List.all_cons, Bool.and_eq_true] at h
    obtain ⟨d, h1, h2⟩ := ih h.1
    obtain ⟨ds, h3, h4⟩ := pl_pds ih h.2
    refine ⟨d :: ds, by show (match t.pd, pdL r with | some d, some ds => some (d :: ds) | _, _ => none) = _; rw [h1, h3], ?_⟩
    simp only [PyData.depthAll]
    omega
theorem pl_pd : ∀ {n : Nat} {x : T}, T.pl n x = true → ∃ d, x.pd = some d ∧ d.depth ≤ n + 1
  | n, .non, _ => ⟨.none, rfl, by simp [PyData.depth]⟩
  | n, .int i, _ => ⟨.int i, rfl, by simp [PyData.depth]⟩
  | n, .str s, _ => ⟨.str s, rfl, by simp [PyData.depth]⟩
  | n + 1, .lst ts, e => by
    obtain ⟨ds, h1, h2⟩ := pl_pds (n := n) (fun h => pl_pd h) (ts := ts) e
    exact ⟨.list ds, pd_lst h1, by simp only [PyData.depth]; omega⟩
  | n + 1, .tup ts, e => by
    obtain ⟨ds, h1, h2⟩ := pl_pds (n := n) (fun h => pl_pd h) (ts := ts) e
    exact ⟨.tuple ds, pd_tup h1, by simp only [PyData.depth]; omega⟩
  | 0, .lst _, e => by cases e
  | 0, .tup _, e => by cases e
  | n, .bl _, e => by cases n <;> cases e
  | n, .ctup _, e => by cases n <;> cases e
  | n, .clst _, e => by cases n <;> cases e
  | n, .dic _ _, e => by cases n <;> cases e
  | n, .dit _ _, e => by cases n <;> cases e
  | n, .ins _ _ _, e => by cases n <;> cases e
  | n, .gl _, e => by cases n <;> cases e
  | n, .ty _, e => by cases n <;> cases e
theorem pl_kinds {n : Nat} {x : T} (h : T.pl n x = true) : x = .non ∨ (∃ i, x = .int i) ∨ (∃ s, x = .str s) ∨ (∃ m ts, n = m + 1 ∧ x = .lst ts ∧ ts.all (T.pl m) = true) ∨ ∃ m ts, n = m + 1 ∧ x = .tup ts ∧ ts.all (T.pl m) = true := by
  cases x with
  | non => exact .inl rfl
  | int i => exact .inr (.inl ⟨i, rfl⟩)
  | str s => exact .inr (.inr (.inl ⟨s, rfl⟩))
  | lst ts =>
    cases n with
    | zero => cases h
    | succ m => exact .inr (.inr (.inr (.inl ⟨m, ts, rfl, rfl, h⟩)))
  | tup ts =>
    cases n with
    | zero => cases h
    | succ m => exact .inr (.inr (.inr (.inr ⟨m, ts, rfl, rfl, h⟩)))
  | _ => cases n <;> cases h
theorem pdL_cons {t : T} {r : List T} {ds : List PyData} (h : pdL (t :: r) = some ds) : ∃ d ds', t.pd = some d ∧ pdL r = some ds' ∧ ds = d :: ds' := by
  have h : (match t.pd, pdL r with | some d, some ds => some (d :: ds) | _, _ => none) = some ds := h
  split at h
  · cases h; rename_i h1 h2; exact ⟨_, _, h1, h2, rfl⟩
  · cases h
theorem pds_eqv {n : Nat} (ih : ∀ {x y : T} {d e : PyData}, T.pl n x = true → T.pl n y = true → x.pd = some d → y.pd = some e → (PyData.eqv d e = true ↔ x = y)) : ∀ {ts us : List T} {ds es : List PyData}, ts.all (T.pl n) = true → us.all (T.pl n) = true → pdL ts = some ds → pdL us = some es → (PyData.eqvAll ds es = true ↔ ts = us)
  | [], [], ds, es, _, _, h1, h2 => by cases h1; cases h2; simp [PyData.eqvAll]
  | [], u :: us, ds, es, _, _, h1, h2 => by
    obtain ⟨d, ds', _, _, rfl⟩ := pdL_cons h2
    cases h1
    simp [PyData.eqvAll]
  | t :: ts, [], ds, es, _, _, h1, h2 => by
    obtain ⟨d, ds', _, _, rfl⟩ := pdL_cons h1
    cases h2
    simp [PyData.eqvAll]
  | t :: ts, u :: us, ds, es, p1, p2, h1, h2 => by
    rw [List.all_cons, Bool.and_eq_true] at p1 p2
    obtain ⟨d, ds', a1, a2, rfl⟩ := pdL_cons h1
    obtain ⟨e, es', b1, b2, rfl⟩ := pdL_cons h2
    have q1 := ih p1.1 p2.1 a1 b1
    have q2 := pds_eqv ih p1.2 p2.2 a2 b2
    show (PyData.eqv d e && PyData.eqvAll ds' es') = true ↔ _
    rw [Bool.and_eq_true, q1, q2, List.cons.injEq]
theorem lst_pd {ts : List T} {d : PyData} (h : (T.lst ts).pd = some d) : ∃ ds, pdL ts = some ds ∧ d = .list ds := by
  have h : (match pdL ts with | some ds => some (PyData.list ds) | none => none) = some d := h
  split at h
  · cases h; rename_i h1; exact ⟨_, h1, rfl⟩
  · cases h
theorem tup_pd {ts : List T} {d : PyData} (h : (T.tup ts).pd = some d) : ∃ ds, pdL ts = some ds ∧ d = .tuple ds := by
  have h : (match pdL ts with | some ds => some (PyData.tuple ds) | none => none) = some d := h
  split at h
  · cases h; rename_i h1; exact ⟨_, h1, rfl⟩
  · cases h
theorem pd_eqv : ∀ {n : Nat} {x y : T} {d e : PyData}, T.pl n x = true → T.pl n y = true → x.pd = some d → y.pd = some e → (PyData.eqv d e = true ↔ x = y) := by
  intro n
  induction n with
  | zero =>
    intro x y d e p1 p2 h1 h2
    rcases pl_kinds p1 with rfl | ⟨i, rfl⟩ | ⟨s, rfl⟩ | ⟨_, _, z, _⟩ | ⟨_, _, z, _⟩ <;> try omega
    all_goals rcases pl_kinds p2 with rfl | ⟨j, rfl⟩ | ⟨u, rfl⟩ | ⟨_, _, z, _⟩ | ⟨_, _, z, _⟩ <;> first | omega | (cases h1; cases h2; simp [PyData.eqv])
  | succ n ih =>
    intro x y d e p1 p2 h1 h2
    rcases pl_kinds p1 with rfl | ⟨i, rfl⟩ | ⟨s, rfl⟩ | ⟨m, ts, z, rfl, q1⟩ | ⟨m, ts, z, rfl, q1⟩ <;> rcases pl_kinds p2 with rfl | ⟨j, rfl⟩ | ⟨u, rfl⟩ | ⟨m2, us, z2, rfl, q2⟩ | ⟨m2, us, z2, rfl, q2⟩
    all_goals first
      | (obtain rfl : n = m := by omega
         obtain rfl : n = m2 := by omega
         first
           | (obtain ⟨ds, a1, rfl⟩ := lst_pd h1
              obtain ⟨es, b1, rfl⟩ := lst_pd h2
              have := pds_eqv ih q1 q2 a1 b1
              simp only [PyData.eqv, this, T.lst.injEq])
           | (obtain ⟨ds, a1, rfl⟩ := tup_pd h1
              obtain ⟨es, b1, rfl⟩ := tup_pd h2
              have := pds_eqv ih q1 q2 a1 b1
              simp only [PyData.eqv, this, T.tup.injEq])
           | (obtain ⟨ds, a1, rfl⟩ := lst_pd h1
              obtain ⟨es, b1, rfl⟩ := tup_pd h2
              simp [PyData.eqv])
           | (obtain ⟨ds, a1, rfl⟩ := tup_pd h1
              obtain ⟨es, b1, rfl⟩ := lst_pd h2
              simp [PyData.eqv]))
      | (obtain ⟨ds, a1, rfl⟩ := lst_pd h1; cases h2; simp [PyData.eqv])
      | (obtain ⟨ds, a1, rfl⟩ := tup_pd h1; cases h2; simp [PyData.eqv])
      | (obtain ⟨ds, a1, rfl⟩ := lst_pd h2; cases h1; simp [PyData.eqv])
      | (obtain ⟨ds, a1, rfl⟩ := tup_pd h2; cases h1; simp [PyData.eqv])
      | (cases h1; cases h2; simp [PyData.eqv])
open Classical in
/-- == of plain data is equality -/
theorem eqB_pl (n : Nat) {x y : T} (p1 : T.pl n x = true) (p2 : T.pl n y = true) (hn : n ≤ 59 := by decide) : eqB x y = some (decide (x = y)) := by
  obtain ⟨d, a1, a2⟩ := pl_pd p1
  obtain ⟨e, b1, b2⟩ := pl_pd p2
  unfold eqB
  rw [a1, b1]
  have q := pd_eqv p1 p2 a1 b1
  simp only [show d.depth ≤ 60 by omega, show e.depth ≤ 60 by omega, and_self, if_true]
  congr 1
  by_cases z : x = y
  · rw [q.mpr z]; simp [z]
  · have : PyData.eqv d e = false := by
      cases h : PyData.eqv d e with
      | false => rfl
      | true => exact absurd (q.mp h) z
    rw [this]; simp [z]
/-! membership in texts, lists of texts -/
theorem memB_ch {s z : Str} {c : Nat} (h : s.cps.toList = [c]) : memB (.str s) (.str z) = some (decide (c ∈ z.cps.toList)) := by
  unfold memB
  simp only [h]
theorem memB_l {x : T} {l : List T} (h1 : x.isS = true) (h2 : l.all T.isS = true) : memB x (.lst l) = some (inS x l) := by
  unfold memB
  simp only [h1, h2, and_self, if_true]
theorem memB_t {x : T} {l : List T} (h1 : x.isS = true) (h2 : l.all T.isS = true) : memB x (.tup l) = some (inS x l) := by
  unfold memB
  simp only [h1, h2, and_self, if_true]
theorem memB_c {x : T} {l : List T} (h1 : x.isS = true) : memB x (.ctup l) = some (inS x l) := by
  unfold memB
  simp only [h1, if_true]
end NQ
namespace NQ
open PySem L2
/-! ### objects: fields read, fields stored -/
/-- e.f of a thing whose parts are frozen -/
def fldT (c f : Str) : Op
  | [.ins c' fs ts] => if c' = c then fldAt fs ts f else none
  | _ => none
section
variable {X : Cx} {K : PySem.W.Frag} {sh : Nat → Sh} {Wx : WX} {c f : Str} {e o : Expr} {pos pos' : Pos}
end
/-- a field is set, or comes behind -/
def fldPut (fs : List Str) (ts : List T) (f : Str) (u : T) : List Str × List T := match fldSet fs ts f u with
  | some ts' => (fs, ts')
  | none => (fs ++ [f], ts ++ [u])
/-- one part of several is put anew -/
theorem OwL.put {K : PySem.W.Frag} {G : Addr → Prop} {H : Hp} {N : List Addr} {y : V} {u : T} : ∀ {ss : List Sh} {F : List Addr} {vs : List V} {ts : List T} {j : Nat} {s : Sh}, OwL K G H ss F vs ts → ss[j]? = some s → Ow K G H s N y u → ∃ F', OwL K G H ss F' (vs.set j y) (ts.set j u) ∧ (∀ a ∈ F', a ∈ F ∨ a ∈ N) ∧ (F.Nodup → N.Nodup → (∀ a ∈ F, a ∉ N) → F'.Nodup)
  | _, _, _, _, j, s, .nil, e, _ => by simp at e
  | _, _, _, _, 0, s, .cons (F := F) (F' := F') h r, e, o => by
    simp at e
    subst e
    refine ⟨N ++ F', .cons o r, fun a z => (List.mem_append.mp z).elim .inr fun z => .inl (List.mem_append_right _ z), fun nd nn dj => ?_⟩
    have nx := List.nodup_append.mp nd
    exact List.nodup_append.mpr ⟨nn, nx.2.1, fun a h1 b h2 z => dj b (List.mem_append_right _ h2) (by rw [← z]; exact h1)⟩
  | _, _, _, _, j + 1, s, .cons (F := F) (F' := F') h r, e, o => by
    obtain ⟨F2, h1, h2, h3⟩ := OwL.put r (j := j) (by simpa using e) o
    refine ⟨F ++ F2, .cons h h1, fun a z => (List.mem_append.mp z).elim (fun z => .inl (List.mem_append_left _ z)) fun z => (h2 a z).imp (fun w => List.mem_append_right _ w) id, fun nd nn dj => ?_⟩
    have nx := List.nodup_append.mp nd
    refine List.nodup_append.mpr ⟨nx.1, h3 nx.2.1 nn fun a z => dj a (List.mem_append_right _ z), fun a k1 b k2 z => ?_⟩
    subst z
    rcases h2 a k2 with w | w
    · exact nx.2.2 a k1 a w rfl
    · exact dj a (List.mem_append_left _ k1) w
theorem Ow.ins {K : PySem.W.Frag} {G : Addr → Prop} {H : Hp} {d : List (Str × Sh)} {F : List Addr} {v : V} {c : Str} {fs : List Str} {ts : List T} (h : Ow K G H (.flds d) F v (.ins c fs ts)) : ∃ a F' vs dx, v = .ref a ∧ F = a :: F' ∧ fs.length = vs.length ∧ H a = some (.ins (He.ga K c) dx (fs.zip vs)) ∧ OwL K G H (fs.map fun f => (d.lookup f).getD .fz) F' vs ts := by
  cases h with
  | nd ce k r => cases k; obtain ⟨hl, dx, ch⟩ := ce; exact ⟨_, _, _, dx, rfl, rfl, hl, ch, r⟩
end NQ
namespace NQ
open PySem L2
/-! ### o.f = e, o a place in what is one's own -/
def putFld (i : Nat) (π : List Pt) (c f : Str) (u : T) (δ : Dl) : Option Dl := match dAt δ i with
  | some t => match getP t π with
    | some (.ins c' fs ts) => if c' = c ∧ fs.length < 1000 then (match setP t π (.ins c (fldPut fs ts f u).1 (fldPut fs ts f u).2) with
      | some t2 => some (δ.set i (some t2))
      | none => none) else none
    | _ => none
  | none => none
def sFld (i : Nat) (π : List Pt) (c f : Str) (g : Dl → Rs) : Sf := fun δ => match g δ with
  | none => none
  | some (.error e, δ') => some (.exc e, δ')
  | some (.ok u, δ') => match putFld i π c f u δ' with
    | some δ2 => some (.nx, δ2)
    | none => none
section
variable {X : Cx} {K : PySem.W.Frag} {c : Cf} {Wx : WX} {o e : Expr} {i : Nat} {π : List Pt} {g : Dl → Rs} {cl f : Str} {d : List (Str × Sh)} {pos pos' : Pos}
/-! ### o.f op= e, e quiet -/
def sAugF (i : Nat) (π : List Pt) (cl f : Str) (op : Op) (g : Qf) : Sf := fun δ => match eP i (π ++ [.fld cl f]) δ, g δ with
  | some a, some b => match op [a, b] with
    | some u => match putFld i π cl f u δ with
      | some δ2 => some (.nx, δ2)
      | none => none
    | none => none
  | _, _ => none
end
end NQ
namespace NQ
open PySem L2
/-! ### a place is written: append, d[k] = e, x[k] = e -/
def putPl (i : Nat) (π : List Pt) (w : T) (δ : Dl) : Option Dl := match dAt δ i with
  | some t => match setP t π w with
    | some t2 => some (δ.set i (some t2))
    | none => none
  | none => none
def fAppP (i : Nat) (π : List Pt) (q : Qf) : Dl → Rs := fun δ => match eP i π δ, q δ with
  | some (.lst ts), some u => if ts.length < sizeLine then (match putPl i π (.lst (ts ++ [u])) δ with
    | some δ2 => some (.ok .non, δ2)
    | none => none) else none
  | _, _ => none
section
variable {X : Cx} {K : PySem.W.Frag} {sh : Nat → Sh} {Wx : WX} {o e : Expr} {i : Nat} {π : List Pt} {q : Qf} {apos cpos : Pos}
end
/-! dicts -/
def dputL {κ : Type} [DecidableEq κ] (ks : List κ) (ts : List T) (k : κ) (u : T) : List κ × List T :=
  if (ks.any fun a => decide (a = k)) = true then (ks, List.zipWith (fun a t => if a = k then u else t) ks ts) else (ks ++ [k], ts ++ [u])
def dputT (d k u : T) : Option T := match d with
  | .dic ks ts => if ks.length = ts.length ∧ ks.length < sizeLine then (match k.key with
    | some k => some (.dic (dputL ks ts k u).1 (dputL ks ts k u).2)
    | none => none) else none
  | .dit ks ts => if ks.length = ts.length ∧ ks.length < sizeLine then (match k with
    | .tup us => match keysT us with
      | some k => some (.dit (dputL ks ts k u).1 (dputL ks ts k u).2)
      | none => none
    | _ => none) else none
  | _ => none
end NQ
namespace NQ
open PySem L2
theorem Ow.dic {K : PySem.W.Frag} {G : Addr → Prop} {H : Hp} {F : List Addr} {v : V} {ks : List Key} {ts : List T} (h : Ow K G H (.all .fz) F v (.dic ks ts)) : ∃ a vs, v = .ref a ∧ F = [a] ∧ ks.length = vs.length ∧ H a = some (.dK (ks.zip vs)) ∧ DfL K G H vs ts := by
  cases h with
  | nd c k r =>
    cases k
    obtain ⟨d, rfl⟩ := OwL.df (ts := ts) r
    exact ⟨_, _, rfl, rfl, c.1, c.2, d⟩
theorem Ow.dit {K : PySem.W.Frag} {G : Addr → Prop} {H : Hp} {F : List Addr} {v : V} {ks : List (List Key)} {ts : List T} (h : Ow K G H (.all .fz) F v (.dit ks ts)) : ∃ a vs, v = .ref a ∧ F = [a] ∧ ks.length = vs.length ∧ H a = some (.dT (ks.zip vs)) ∧ DfL K G H vs ts := by
  cases h with
  | nd c k r =>
    cases k
    obtain ⟨d, rfl⟩ := OwL.df (ts := ts) r
    exact ⟨_, _, rfl, rfl, c.1, c.2, d⟩
def sPutD (i : Nat) (π : List Pt) (qk : Qf) (g : Dl → Rs) : Sf := fun δ => match g δ with
  | none => none
  | some (.error e, δ') => some (.exc e, δ')
  | some (.ok u, δ') => match eP i π δ', qk δ' with
    | some d, some k => match dputT d k u with
      | some d2 => match putPl i π d2 δ' with
        | some δ2 => some (.nx, δ2)
        | none => none
      | none => none
    | _, _ => none
section
variable {X : Cx} {K : PySem.W.Frag} {c : Cf} {Wx : WX} {o e k : Expr} {i : Nat} {π : List Pt} {g : Dl → Rs} {q : Qf} {pos pos' : Pos}
/-! x[k] = e, x a list at a place -/
def sSetP (i : Nat) (π : List Pt) (qk : Qf) (g : Dl → Rs) : Sf := fun δ => match g δ with
  | none => none
  | some (.error e, δ') => some (.exc e, δ')
  | some (.ok u, δ') => match eP i π δ', qk δ' with
    | some (.lst ts), some (.int n) => match setAt ts n u with
      | some ts' => match putPl i π (.lst ts') δ' with
        | some δ2 => some (.nx, δ2)
        | none => none
      | none => none
    | _, _ => none
end
end NQ
namespace NQ
open PySem L2
/-! ### methods -/
/-- x.m(..), x one's own object -/
def fMeth (cl m : Str) (ps : List Sh) (F : List T → Fo) (i : Nat) (os : List Opd) : Dl → Rs := fun δ => match dAt δ i with
  | some (.ins c fs _) => if c = cl ∧ m ∉ fs then fCall ps F (.var i :: os) δ else none
  | _ => none
/-- x.m(..), x a frozen object -/
def fMethF (cl m : Str) (ps : List Sh) (F : List T → Fo) (q : Qf) (os : List Opd) : Dl → Rs := fun δ => match q δ with
  | some (.ins c fs _) => if c = cl ∧ m ∉ fs then fCall ps F (.val (qE q) :: os) δ else none
  | _ => none
section
variable {X : Cx} {K : PySem.W.Frag} {sh : Nat → Sh} {Wx : WX} {ps : List Sh} {rs : Sh} {F : List T → Fo} {os : List Opd} {k i : Nat} {cl m : Str} {o e : Expr} {es : List Expr} {params : List Str} {p pos apos : Pos} {q : Qf} {d : List (Str × Sh)}
end
end NQ
namespace NQ
open PySem L2
/-! ### an object made -/
def fMake (cl : Str) (F : List T → Fo) (os : List Opd) : Dl → Rs := fun δ => match runs os δ with
  | none => none
  | some (.error e, δ') => some (.error e, δ')
  | some (.ok l, δ') => match res l δ' with
    | none => none
    | some ts => match F (.ins cl [] [] :: ts) with
      | some (.ret .non, o :: _) => some (.ok o, δ')
      | some (.exc e, _) => some (.error e, δ')
      | _ => none
section
variable {K : PySem.W.Frag} {sh : Nat → Sh} {W : Addr → Prop} {Y N : List Addr} {Fm : Nat → List Addr} {H H' : Hp} {σ : L2.St} {δ : Dl}
/-- new places are held -/
theorem Fr.holds (f : Fr K sh W Y Fm H σ δ) (hN : N.Nodup) (hf : ∀ a ∈ N, H a = none) (e : EdP noA H H') (hl : ∀ a ∈ N, NT H' a) : Fr K sh W (N ++ Y) Fm H' σ δ := by
  have np : ∀ a, Gw Y Fm W a → a ∉ N := fun a z w => f.al a z (hf a w)
  have hg : ∀ a, Gm (N ++ Y) Fm a → Gm Y Fm a ∨ H a = none := fun a h => h.elim (fun q => (List.mem_append.mp q).elim (fun z => .inr (hf a z)) fun z => .inl (.inl z)) fun q => .inl (.inr q)
  have f2 := f.ed0 e
  refine ⟨fun i t h => by obtain ⟨v, h1, h2⟩ := f.rel i t h; exact ⟨v, h1, h2.step e (fun _ z => z.elim) (fun a z => z.elim (fun q => (hg a q).imp .inl id) fun q => .inl (.inr q)) hg fun _ _ z => z.elim⟩, f2.un, f2.nd, f2.dj, f2.dw, f2.wl, f2.len, ?_, fun i a q => ?_, fun a q => ?_, fun a q => ?_⟩
  · exact List.nodup_append.mpr ⟨hN, f.xn, fun a h1 b h2 z => np b (.inl (.inl h2)) (by rw [← z]; exact h1)⟩
  · rcases List.mem_append.mp q with q | q
    · exact fun z => np a (.inl (.inr ⟨i, z⟩)) q
    · exact f.xd i a q
  · rcases List.mem_append.mp q with q | q
    · exact fun z => np a (.inr z) q
    · exact f.xw a q
  · rcases List.mem_append.mp q with q | q
    · exact hl a q
    · exact f2.xl a q
end
section
variable {X : Cx} {K : PySem.W.Frag} {sh : Nat → Sh} {Wx : WX} {ps : List Sh} {F : List T → Fo} {os : List Opd} {k : Nat} {cl : Str} {e : Expr} {es : List Expr} {params : List Str} {p pos : Pos} {d : List (Str × Sh)}
end
end NQ
namespace NQ
open PySem L2
/-! ### walking: objects -/
section
variable {F G : Sf} {f g : Dl → Rs} {u v : Qf} {δ δ2 : Dl} {i : Nat} {op : Op} {os : List Opd} {x y t : T} {ts : List T} {fs : List Str} {π : List Pt} {cl fl m : Str}
variable {N B C : Dl → Prop} {R : T → Dl → Prop} {E : Xn → Dl → Prop} {Q : T → Dl → Prop} {q : T → Prop}
theorem wo_fld (e : fldAt fs ts fl = some y) (z : q y) : Wq (fldT cl fl [.ins cl fs ts]) q := by
  unfold fldT
  simp only [if_true, e]
  exact z
/-- what a place holds when its field is stored; P: the tree then -/
def Fp (t : T) (π : List Pt) (c f : Str) (u : T) (P : T → Prop) : Prop := ∃ fs ts t2, getP t π = some (.ins c fs ts) ∧ fs.length < 1000 ∧ setP t π (.ins c (fldPut fs ts f u).1 (fldPut fs ts f u).2) = some t2 ∧ P t2
theorem fp_put {c f : Str} {w : T} {Z : Dl → Prop} (e : dAt δ i = some t) (z : Fp t π c f w fun t2 => Z (δ.set i (some t2))) : ∃ δ2, putFld i π c f w δ = some δ2 ∧ Z δ2 := by
  obtain ⟨fs, ts, t2, h1, h2, h3, h4⟩ := z
  refine ⟨_, ?_, h4⟩
  unfold putFld
  rw [e]
  simp only [h1, h2, and_self, if_true, h3]
theorem fp_here {c f : Str} {w : T} {P : T → Prop} {fs' : List Str} {ts' : List T} (hl : fs.length < 1000) (e : fldPut fs ts f w = (fs', ts')) (z : P (.ins c fs' ts')) : Fp (.ins c fs ts) [] c f w P := ⟨fs, ts, .ins c fs' ts', rfl, hl, by rw [e]; rfl, z⟩
theorem ws_fld (z : We (g δ) (fun w δ' => At δ' i fun t => Fp t π cl fl w fun t2 => Nm (δ'.set i (some t2)) N) E) : Ws (sFld i π cl fl g δ) N B C R E := by
  unfold sFld
  rcases we_c z with ⟨w, d0, e0, t, e1, z⟩ | ⟨t0, d0, e0, z⟩ <;> simp only [e0]
  · obtain ⟨δ2, e2, z⟩ := fp_put e1 z
    simp only [e2]
    exact z
  · exact z
theorem ws_afld (z : Wq (eP i (π ++ [.fld cl fl]) δ) fun a => Wq (u δ) fun b => Wq (op [a, b]) fun w => At δ i fun t => Fp t π cl fl w fun t2 => Nm (δ.set i (some t2)) N) : Ws (sAugF i π cl fl op u δ) N B C R E := by
  unfold sAugF
  obtain ⟨a, e1, z⟩ := wq_ex z
  obtain ⟨b, e2, z⟩ := wq_ex z
  obtain ⟨w, e3, t, e4, z⟩ := wq_ex z
  obtain ⟨δ2, e5, z⟩ := fp_put e4 z
  simp only [e1, e2, e3, e5]
  exact z
theorem put_go {w : T} {Z : Dl → Prop} (e : dAt δ i = some t) (z : So (setP t π w) fun t2 => Z (δ.set i (some t2))) : ∃ δ2, putPl i π w δ = some δ2 ∧ Z δ2 := by
  obtain ⟨t2, h1, h2⟩ := z
  refine ⟨_, ?_, h2⟩
  unfold putPl
  rw [e]
  simp only [h1]
theorem we_appP (z : Wq (eP i π δ) fun x => Is x T.lst fun us => Wq (u δ) fun w => Sd (us.length < sizeLine) (At δ i fun t => So (setP t π (.lst (us ++ [w]))) fun t2 => Nm (δ.set i (some t2)) (Q .non))) : We (fAppP i π u δ) Q E := by
  unfold fAppP
  obtain ⟨_, e1, us, rfl, z⟩ := wq_ex z
  obtain ⟨w, e2, hl, t, e3, z⟩ := wq_ex z
  obtain ⟨δ2, e4, z⟩ := put_go e3 z
  simp only [e1, e2, hl, if_true, e4]
  exact z
theorem ws_putD (z : We (g δ) (fun w δ' => Wq (eP i π δ') fun d => Wq (u δ') fun k => So (dputT d k w) fun d2 => At δ' i fun t => So (setP t π d2) fun t2 => Nm (δ'.set i (some t2)) N) E) : Ws (sPutD i π u g δ) N B C R E := by
  unfold sPutD
  rcases we_c z with ⟨w, d0, e0, z⟩ | ⟨t0, d0, e0, z⟩ <;> simp only [e0]
  · obtain ⟨d, e1, z⟩ := wq_ex z
    obtain ⟨k, e2, d2, e3, t, e4, z⟩ := wq_ex z
    obtain ⟨δ2, e5, z⟩ := put_go e4 z
    simp only [e1, e2, e3, e5]
    exact z
  · exact z
theorem ws_setP (z : We (g δ) (fun w δ' => Wq (eP i π δ') fun x => Is x T.lst fun us => Wq (u δ') fun k => Is k T.int fun n => So (setAt us n w) fun us' => At δ' i fun t => So (setP t π (.lst us')) fun t2 => Nm (δ'.set i (some t2)) N) E) : Ws (sSetP i π u g δ) N B C R E := by
  unfold sSetP
  rcases we_c z with ⟨w, d0, e0, z⟩ | ⟨t0, d0, e0, z⟩ <;> simp only [e0]
  · obtain ⟨_, e1, us, rfl, z⟩ := wq_ex z
    obtain ⟨_, e2, n, rfl, us', e3, t, e4, z⟩ := wq_ex z
    obtain ⟨δ2, e5, z⟩ := put_go e4 z
    simp only [e1, e2, e3, e5]
    exact z
  · exact z
theorem we_meth {ps : List Sh} {Ff : List T → Fo} (e : dAt δ i = some (.ins cl fs ts)) (hm : m ∉ fs) (z : We (fCall ps Ff (.var i :: os) δ) Q E) : We (fMeth cl m ps Ff i os δ) Q E := by
  unfold fMeth
  rw [e]
  simp only [hm, not_false_eq_true, and_self, if_true]
  exact z
theorem we_methF {ps : List Sh} {Ff : List T → Fo} (z : Wq (u δ) fun t => ∃ fs ts, t = .ins cl fs ts ∧ m ∉ fs ∧ We (fCall ps Ff (.val (qE u) :: os) δ) Q E) : We (fMethF cl m ps Ff u os δ) Q E := by
  unfold fMethF
  obtain ⟨t, e1, fs, ts, rfl, hm, z⟩ := wq_ex z
  rw [e1]
  simp only [hm, not_false_eq_true, and_self, if_true]
  exact z
theorem we_make {Ff : List T → Fo} (z : Wa os δ (fun us δ' => Wf (Ff (.ins cl [] [] :: us)) (fun t l => t = .non ∧ ∃ o r, l = o :: r ∧ Q o δ') fun e _ => E e δ') E) : We (fMake cl Ff os δ) Q E := by
  unfold fMake
  rcases wa_c z with ⟨l0, d0, ts0, e1, e2, z⟩ | ⟨t0, d0, e1, z⟩
  · simp only [e1, e2]
    rcases wf_or z with ⟨t, l, e3, rfl, o, r, rfl, z⟩ | ⟨t, l, e3, z⟩
    · simp only [e3]; exact z
    · simp only [e3]; exact z
  · simp only [e1]; exact z
end
end NQ
namespace NQ
open PySem L2
/-! ### {}; what += does -/
def fNewK : Dl → Rs := fun δ => some (.ok (.dic [] []), δ)
def fNewT : Dl → Rs := fun δ => some (.ok (.dit [] []), δ)
section
variable {X : Cx} {K : PySem.W.Frag} {sh : Nat → Sh} {Wx : WX} {pos : Pos}
end
section
variable {δ : Dl} {Q : T → Dl → Prop} {E : Xn → Dl → Prop}
theorem we_newK (z : Q (.dic [] []) δ) : We (fNewK δ) Q E := z
theorem we_newT (z : Q (.dit [] []) δ) : We (fNewT δ) Q E := z
end
/-! ### a comprehension whose items are new things of one's own -/
end NQ
namespace NQ
open PySem L2
/-! ### [] of any shape -/
section
variable {X : Cx} {K : PySem.W.Frag} {sh : Nat → Sh} {Wx : WX} {pos : Pos}
end
end NQ
namespace L2
open PySem PySem.Spec PyProof.Rows
section
variable {X : Cx}
end
end L2
namespace NQ
open PySem L2
/-! ### dict(d) -/
section
variable {X : Cx} {K : PySem.W.Frag} {a : Expr} {pos p : Pos}
end
end NQ
namespace NQ
open PySem L2
/-! ### a class called by a local name (cls in a classmethod) -/
section
variable {K : PySem.W.Frag} {sh : Nat → Sh} {W : Addr → Prop} {Y N : List Addr} {Fm : Nat → List Addr} {H H' : Hp} {σ : L2.St} {δ : Dl}
variable {X : Cx} {K : PySem.W.Frag} {sh : Nat → Sh} {Wx : WX} {ps : List Sh} {F : List T → Fo} {os : List Opd} {k : Nat} {cl : Str} {e : Expr} {es : List Expr} {params : List Str} {p pos : Pos} {d : List (Str × Sh)}
end
end NQ
namespace NQ
open PySem L2
/-! ### classmethods -/
def fCM (cl : Str) (ps : List Sh) (F : List T → Fo) (q : Qf) (os : List Opd) : Dl → Rs := fun δ => match q δ with
  | some (.gl x) => if x = cl then fCall ps F (.val (qE q) :: os) δ else none
  | _ => none
section
variable {X : Cx} {K : PySem.W.Frag} {sh : Nat → Sh} {Wx : WX} {ps : List Sh} {rs : Sh} {F : List T → Fo} {os : List Opd} {k i : Nat} {cl m : Str} {o e : Expr} {es : List Expr} {params : List Str} {p pos apos : Pos} {q : Qf} {d : List (Str × Sh)}
end
section
variable {X : Cx} {K : PySem.W.Frag} {sh : Nat → Sh} {Wx : WX} {ps : List Sh} {F : List T → Fo} {os : List Opd} {k : Nat} {cl m : Str} {o e : Expr} {es : List Expr} {params : List Str} {apos pos : Pos} {q : Qf}
end
end NQ
namespace NQ
open PySem L2
/-! ### a part of what is one's own gets a name of its own for a while -/
section
variable {K : PySem.W.Frag} {G : Addr → Prop} {H : Hp}
end
/-! ### the part is taken out, and put back -/
section
variable {K : PySem.W.Frag} {sh : Nat → Sh} {W : Addr → Prop} {X X' Y : List Addr} {Fm : Nat → List Addr} {H : Hp} {σ : L2.St} {δ : Dl} {i : Nat} {π : List Pt} {t t' : T} {s' : Sh}
/-- the footprints without that of the slot i -/
def Fx (Fm : Nat → List Addr) (i : Nat) : Nat → List Addr := fun j => if j = i then [] else Fm j
end
/-! ### places told by the state -/
abbrev Pf := Dl → Option (List Pt)
def pNil : Pf := fun _ => some []
def pFld (πf : Pf) (c f : Str) : Pf := fun δ => match πf δ with
  | some π => some (π ++ [.fld c f])
  | none => none
def pIx (πf : Pf) (q : Qf) : Pf := fun δ => match πf δ, q δ with
  | some π, some (.int n) => some (π ++ [.ix n])
  | _, _ => none
def ShF (s0 : Sh) (πf : Pf) (s : Sh) : Prop := ∀ δ π, πf δ = some π → shP s0 π = some s
theorem shP_app : ∀ {π ρ : List Pt} {s u : Sh}, shP s π = some u → shP s (π ++ ρ) = shP u ρ
  | [], ρ, s, u, h => by
    have : s = u := by cases s <;> exact Option.some.inj h
    rw [this]; rfl
  | .fld c f :: π, ρ, .flds d, u, h => by
    show shP ((d.lookup f).getD .fz) (π ++ ρ) = _
    exact shP_app (π := π) h
  | .ix n :: π, ρ, .all s, u, h => by
    show shP s (π ++ ρ) = _
    exact shP_app (π := π) h
  | .fld c f :: π, ρ, .fz, _, h => by cases h
  | .fld c f :: π, ρ, .vw, _, h => by cases h
  | .fld c f :: π, ρ, .xc _ _ _ _, _, h => by cases h
  | .fld c f :: π, ρ, .all _, _, h => by cases h
  | .fld c f :: π, ρ, .row _, _, h => by cases h
  | .fld c f :: π, ρ, .opt _, _, h => by cases h
  | .ix n :: π, ρ, .fz, _, h => by cases h
  | .ix n :: π, ρ, .vw, _, h => by cases h
  | .ix n :: π, ρ, .xc _ _ _ _, _, h => by cases h
  | .ix n :: π, ρ, .flds _, _, h => by cases h
  | .ix n :: π, ρ, .row _, _, h => by cases h
  | .ix n :: π, ρ, .opt _, _, h => by cases h
theorem ShF.nil {s : Sh} : ShF s pNil s := fun δ π h => by cases h; cases s <;> rfl
theorem ShF.fld {s0 : Sh} {πf : Pf} {d : List (Str × Sh)} {c f : Str} (h : ShF s0 πf (.flds d)) : ShF s0 (pFld πf c f) ((d.lookup f).getD .fz) := fun δ π e => by
  unfold pFld at e
  split at e
  · rename_i p q
    cases e
    rw [shP_app (h δ p q)]
    show shP ((d.lookup f).getD .fz) [] = _
    cases (d.lookup f).getD .fz <;> rfl
  · cases e
theorem ShF.ix {s0 s : Sh} {πf : Pf} {q : Qf} (h : ShF s0 πf (.all s)) : ShF s0 (pIx πf q) s := fun δ π e => by
  unfold pIx at e
  split at e
  · rename_i p n q1 q2
    cases e
    rw [shP_app (h δ p q1)]
    show shP s [] = _
    cases s <;> rfl
  · cases e
def ePq (i : Nat) (πf : Pf) : Qf := fun δ => match πf δ, dAt δ i with
  | some π, some t => getP t π
  | _, _ => none
section
variable {X : Cx} {K : PySem.W.Frag} {sh : Nat → Sh} {e o k : Expr} {i : Nat} {πf : Pf} {pos : Pos} {s s' : Sh} {q : Qf}
end
/-! ### blocks in parts -/
end NQ
namespace NQ
open PySem L2
/-! ### x = a part of what is one's own: the part is x's to the end of the block -/
def sBor (i j : Nat) (πf : Pf) (G : Sf) : Sf := fun δ => match πf δ, dAt δ i with
  | some π, some t => match getP t π with
    | some t' => match G ((δ.set i none).set j (some t')) with
      | some (fl, δ') => match dAt δ' j with
        | some w => match setP t π w with
          | some t2 => if i < δ'.length ∧ j < δ.length then some (fl, (δ'.set j none).set i (some t2)) else none
          | none => none
        | none => none
      | none => none
    | none => none
  | _, _ => none
section
variable {X : Cx} {K : PySem.W.Frag} {c : Cf} {Wx : WX} {rest : List Stmt} {G : Sf} {e : Expr} {pos : Pos} {i j : Nat} {πf : Pf}
end
end NQ
namespace NL
open PySem L2
/-! ### an own class made: defaults and keywords -/
structure MkN (P : Program) (w : World) (K : PySem.W.Frag) (mg : Str → Option Value) (base : Heap) (k : Nat) (x : Str) (C : Addr) (ps : List Str) (n : Nat) (ks : List Str) (gV : List V → List V → List V) (sp : Sp) : Prop where
  g : mg x = some (.ref C)
  fn : ∃ (f : Addr) (fd : FuncData) (gg : List Value → List Value → List Value), Mk K C f ∧ KBn K fd ps (n + 1) ks gg gV ∧ FnOk P w K mg base (L2.CX P w) k f fd ps sp
section
variable {X : Cx} {k n : Nat} {x : Str} {C : Addr} {e : Expr} {es : List Expr} {kws : List Keyword} {t tk : TA} {p pos : Pos} {ps ks : List Str} {sp : Sp} {W : WX} {gV : List V → List V → List V}
end
end NL
namespace NQ
open PySem L2
def fMakeK (cl : Str) (F : List T → Fo) (gT : List T → List T) (os : List Opd) : Dl → Rs := fun δ => match runs os δ with
  | none => none
  | some (.error e, δ') => some (.error e, δ')
  | some (.ok l, δ') => match res l δ' with
    | none => none
    | some ts => match F (.ins cl [] [] :: gT ts) with
      | some (.ret .non, o :: _) => some (.ok o, δ')
      | some (.exc e, _) => some (.error e, δ')
      | _ => none
theorem TOs_app {K : PySem.W.Frag} {sh : Nat → Sh} {Wx : WX} {σ : L2.St} : ∀ {os os2 : List Opd} {H : Hp} {Q : List V → Hp → Prop}, TOs K sh Wx (os ++ os2) σ H Q → TOs K sh Wx os σ H fun vs H1 => TOs K sh Wx os2 σ H1 fun zs H2 => vs.length = os.length ∧ Q (vs ++ zs) H2
  | [], os2, H, Q, h => by
    show TOs K sh Wx os2 σ H _
    exact TOs.mono' (fun zs H2 q => ⟨rfl, q⟩) h
  | o :: os, os2, H, Q, h => by
    show TO K sh Wx o σ H fun y H2 => _
    refine TO.mono σ H _ _ (fun x H' q => ?_) h
    have := TOs_app (os := os) (os2 := os2) q
    refine TOs.mono' (fun vs H1 q => ?_) this
    refine TOs.mono' (fun zs H2 q => ?_) q
    exact ⟨congrArg Nat.succ q.1, q.2⟩
where
  TOs.mono' {K : PySem.W.Frag} {sh : Nat → Sh} {Wx : WX} {σ : L2.St} : ∀ {os : List Opd} {H : Hp} {Q Q' : List V → Hp → Prop}, (∀ vs H', Q vs H' → Q' vs H') → TOs K sh Wx os σ H Q → TOs K sh Wx os σ H Q'
    | [], H, Q, Q', i, h => i _ _ h
    | o :: os, H, Q, Q', i, h => by
      show TO K sh Wx o σ H fun y H2 => _
      refine TO.mono σ H _ _ (fun x H' q => ?_) h
      exact TOs.mono' (os := os) (fun vs H1 q => i _ _ q) q
theorem TOs.mono' {K : PySem.W.Frag} {sh : Nat → Sh} {Wx : WX} {σ : L2.St} {os : List Opd} {H : Hp} {Q Q' : List V → Hp → Prop} (i : ∀ vs H', Q vs H' → Q' vs H') (h : TOs K sh Wx os σ H Q) : TOs K sh Wx os σ H Q' := TOs_app.TOs.mono' i h
section
variable {K : PySem.W.Frag} {sh : Nat → Sh} {Wx : WX} {ps : List Sh} {F : List T → Fo} {cl : Str} {d : List (Str × Sh)} {σ : L2.St} {Q : VK} {W : Addr → Prop} {Y : List Addr} {Fm1 : Nat → List Addr} {H1 : Hp} {δ' : Dl}
end
section
variable {X : Cx} {K : PySem.W.Frag} {sh : Nat → Sh} {Wx : WX} {ps : List Sh} {F : List T → Fo} {os os2 : List Opd} {k n : Nat} {cl : Str} {e : Expr} {es : List Expr} {params ks : List Str} {p pos : Pos} {d : List (Str × Sh)} {gV : List V → List V → List V} {gT : List T → List T} {kws : List Keyword}
end
end NQ
namespace PySem
open Sem (wp)
/-! ### enumerate(v), v told by how it begins -/
section
variable {prog : Program} {w : World} {A : Around} {E : Value → Shared → Prop} {s : Shared}
end
end PySem
namespace NL
open PySem PySem.Spec PyProof.Rows L2
end NL
namespace NQ
open PySem L2
/-! ### enumerate of a list or tuple; zip of two lists, of two tuples -/
section
variable {K : PySem.W.Frag} {G : Addr → Prop} {H : Hp} {a b : Addr} {vs ws : List V} {ts us : List T}
def zpT (ts us : List T) : List T := List.zipWith (fun x y => T.tup [x, y]) ts us
end
section
variable {X : Cx} {K : PySem.W.Frag} {sh : Nat → Sh} {Wx : WX} {tg e e2 : Expr} {es : List Expr} {pos p : Pos}
def itEn2 (f : Dl → Rs) : Il := fun δ => match f δ with
  | some (.ok (.lst ts), δ') => some (.ok (enT ts), δ')
  | some (.ok (.tup ts), δ') => some (.ok (enT ts), δ')
  | some (.ok (.ctup ts), δ') => some (.ok (enT ts), δ')
  | some (.error e, δ') => some (.error e, δ')
  | _ => none
def zipT : T → T → Option (List T)
  | .lst ts, .lst us => some (zpT ts us)
  | .tup ts, .tup us => some (zpT ts us)
  | _, _ => none
def itZ (f g : Dl → Rs) : Il := fun δ => match f δ with
  | none => none
  | some (.error e, δ') => some (.error e, δ')
  | some (.ok t, δ1) => match g δ1 with
    | none => none
    | some (.error e, δ') => some (.error e, δ')
    | some (.ok u, δ') => match zipT t u with
      | some ts => some (.ok ts, δ')
      | none => none
end
end NQ
namespace NL
open PySem PySem.Spec PyProof.Rows L2
/-! ### an own class's special methods: o[i], o[i] = e, a | b, a == b -/
section
variable {X : Cx} {k : Nat} {C : Addr} {o i e a b : Expr} {to ti ta tb : TE} {pos : Pos} {ps : List Str} {sp : Sp} {W : WX}
/-- the object an address stands for -/
theorem inst_of {pins : List (Addr × Obj)} {σ : L2.St} {H : Hp} {s : Shared} {x dx : Addr} {fs : List (Str × V)} (I : Inv X pins σ H s) (ea : H x = some (.ins C dx fs)) : ∃ od, PySem.W.InstAt s.heap x (PySem.W.instObj C dx) C (some od) := by
  obtain ⟨mA, O, _⟩ := ins_get I.hok ea
  obtain ⟨od, J, _⟩ := O.look
  exact ⟨od, J⟩
end
end NL
namespace NQ
open PySem L2
/-! ### special methods of own classes -/
/-- the operands at the places js are objects of the class cl -/
def insAt (cl : Str) : List Nat → List T → Bool
  | [], _ => true
  | j :: js, ts => (match ts[j]? with
    | some (.ins c _ _) => decide (c = cl)
    | _ => false) && insAt cl js ts
def fSp (cl : Str) (js : List Nat) (ps : List Sh) (F : List T → Fo) (os : List Opd) : Dl → Rs := fun δ => match runs os δ with
  | none => none
  | some (.error e, δ') => some (.error e, δ')
  | some (.ok l, δ') => match res l δ' with
    | none => none
    | some ts => if insAt cl js ts = true then (match F ts with
      | none => none
      | some (.ret t, ts') => if ts'.length = ps.length then some (.ok t, wb ps (skO os) ts' δ') else none
      | some (.exc e, ts') => if ts'.length = ps.length then some (.error e, wb ps (skO os) ts' δ') else none) else none
section
variable {X : Cx} {K : PySem.W.Frag} {sh : Nat → Sh} {Wx : WX} {ps : List Sh} {rs : Sh} {F : List T → Fo} {os : List Opd} {cl : Str} {js : List Nat}
end
section
variable {X : Cx} {K : PySem.W.Frag} {sh : Nat → Sh} {Wx : WX} {ps : List Sh} {rs : Sh} {F : List T → Fo} {o1 o2 : Opd} {cl : Str} {k : Nat} {o i a b e : Expr} {params : List Str} {pos : Pos}
end
/-! ### o[i] = e, o one's own object -/
def sSetO (cl : Str) (ps : List Sh) (F : List T → Fo) (i : Nat) (q : Qf) (f : Dl → Rs) : Sf := fun δ => match f δ with
  | none => none
  | some (.error e, δ') => some (.exc e, δ')
  | some (.ok t, δ1) => match dAt δ1 i, q δ1 with
    | some (.ins c fs us), some k => if c = cl then (match F [.ins c fs us, k, t] with
      | some (.ret r, o' :: ts') => if (o' :: ts').length = ps.length then some (.nx, δ1.set i (some o')) else none
      | some (.exc e, o' :: ts') => if (o' :: ts').length = ps.length then some (.exc e, δ1.set i (some o')) else none
      | _ => none) else none
    | _, _ => none
section
variable {X : Cx} {K : PySem.W.Frag} {c : Cf} {Wx : WX} {d : List (Str × Sh)} {F : List T → Fo} {cl : Str} {k i : Nat} {o ix e : Expr} {params : List Str} {pos p2 : Pos} {q : Qf} {f : Dl → Rs}
end
end NQ
namespace NQ
open PySem L2
/-! ### not a, as a value -/
def notV (u : Qf) : Qf := fun δ => match u δ with
  | some t => match truW t with
    | some b => some (.bl (!b))
    | none => none
  | none => none
def notW (f : Dl → Rs) : Dl → Rs := fun δ => match f δ with
  | none => none
  | some (.error e, δ') => some (.error e, δ')
  | some (.ok t, δ') => match truW t with
    | some b => some (.ok (.bl (!b)), δ')
    | none => none
section
variable {X : Cx} {K : PySem.W.Frag} {sh : Nat → Sh} {Wx : WX} {a b c e : Expr} {pos p p2 : Pos} {u : Qf} {f g : Dl → Rs} {m m3 : Md} {h : Qf} {o o' : CmpOp} {op op' : Op}
/-! ### tuple(range(..)), list(range(..)) -/
def rgT (a b : Int) : List T := (List.range (b - a).toNat).map fun i => T.int (a + (i : Nat))
def tupRg (f : Dl → Rs) : Dl → Rs := fun δ => match f δ with
  | some (.ok (.int n), δ') => if 0 ≤ n ∧ n ≤ 16777216 then some (.ok (.tup (rgT 0 n)), δ') else none
  | some (.error e, δ') => some (.error e, δ')
  | _ => none
def lstRg (f : Dl → Rs) : Dl → Rs := fun δ => match f δ with
  | some (.ok (.int n), δ') => if 0 ≤ n ∧ n ≤ 16777216 then some (.ok (.lst (rgT 0 n)), δ') else none
  | some (.error e, δ') => some (.error e, δ')
  | _ => none
/-! ### C.NAME, a constant tuple of a class -/
structure CNm (K : PySem.W.Frag) (C : Str) (f : Str) (ts : List T) : Prop where
  cr : ClX.CRead K (He.ga K C) (.type "type")
  cv : ∃ a : Addr, ClX.CVal K (He.ga K C) (.type "type") f (.ref a) (.ref a) ∧ ∀ H : Hp, SqT K H a (ts.map T.sv)
/-! ### a < b < c, the first two no mere readings -/
def chE (op op' : Op) (f g : Dl → Rs) (h : Qf) : Dl → Rs := fun δ => match f δ with
  | none => none
  | some (.error e, δ') => some (.error e, δ')
  | some (.ok x, δ1) => match g δ1 with
    | none => none
    | some (.error e, δ') => some (.error e, δ')
    | some (.ok y, δ2) => match op [x, y] with
      | some (.bl true) => match h δ2 with
        | some z => match op' [y, z] with
          | some r => some (.ok r, δ2)
          | none => none
        | none => none
      | some (.bl false) => some (.ok (.bl false), δ2)
      | _ => none
end
end NQ
namespace NL
open PySem L2
/-! ### more facts of the written part: class constants, what a class is not -/
inductive Fz where
  | cnm (x f : Str) (vs : List He.Dv)
  | nsq (x : Str)
  | slf (x : Str)
def cnmB (K : PySem.W.Frag) (C : Addr) (f : Str) (vs : List He.Dv) : Bool := match PySem.W.findCls K (.ref C) (.type "type") f with
  | some (.val (.ref a)) => (match K.lookup a with
    | some ⟨.type c, _, .seq its _, _⟩ => decide (c = "tuple") && (decide (its.size ≤ sizeLine) && He.relAll (vs.map (He.Dv.v K)) its.toList)
    | _ => false)
  | _ => false
def Fz.ok (K : PySem.W.Frag) : Fz → Bool
  | .cnm x f vs => PySem.W.readsIn K (He.ga K x) (.type "type") && cnmB K (He.ga K x) f vs
  | .nsq x => PySem.W.noSeq K (He.ga K x)
  | .slf x => PySem.W.selfFirst K (He.ga K x)
def fzB (l : List Fz) (K : PySem.W.Frag) : Bool := l.all fun f => f.ok K
end NL
namespace NQ
open PySem L2
/-! ### comprehensions whose items are things of one's own -/
section
variable {X : Cx} {K : PySem.W.Frag} {c : Cf} {Wx : WX} {its : Il} {g : Gf} {cnd : Dl → Rb} {el : Dl → Rs} {vs ns : List Nat} {σ : L2.St} {H : Hp} {Q : VK} {s : Sh}
variable {elt tg iter : Expr} {ifs : List Expr} {scope : Scope} {own : List (Str × Nat)} {pos : Pos}
variable {y : Str} {py spos : Pos}
end
end NQ
namespace NQ
open PySem L2
/-! ### a, b = e1, e2 of plain locals -/
def sPar2 (i j : Nat) (f g : Dl → Rs) : Sf := fun δ => match f δ with
  | none => none
  | some (.error e, δ') => some (.exc e, δ')
  | some (.ok t, δ1) => match g δ1 with
    | none => none
    | some (.error e, δ') => some (.exc e, δ')
    | some (.ok u, δ2) => if i < δ2.length ∧ j < δ2.length then some (.nx, (δ2.set i (some t)).set j (some u)) else none
section
variable {X : Cx} {K : PySem.W.Frag} {c : Cf} {sh : Nat → Sh} {Wx : WX} {f g : Dl → Rs} {a b e : Expr}
theorem Ke.held {W : Addr → Prop} {F Y : List Addr} {Fm : Nat → List Addr} {σ : L2.St} {H : Hp} {e : Xn} {δ' : Dl} (h : Ke K sh Wx W Y Fm σ H e δ') : Ke K sh Wx W (F ++ Y) Fm σ H e δ' := fun d v H' Fm' f' x' q dv =>
  h d v H' Fm' f'.let x' ⟨fun z => q.1 (z.imp (fun z => z.imp (fun w => List.mem_append_right _ w) id) id), q.2⟩ (dv.weak fun a z => z.imp (fun z => z.imp (fun w => List.mem_append_right _ w) id) id)
end
end NQ
namespace NL
open PySem PySem.Spec PyProof.Rows L2
/-! ### the keys of a dict that is locked as soon as it is told, and let go behind the statement -/
def NoF (X : Cx) (d : Addr) : Prop := ∀ o' u', X.H_0 d ≠ some (.frz o' u')
section
variable {X : Cx} {tg e : Expr} {td : TE}
end
end NL
namespace NQ
open PySem L2
/-! ### a frozen dict is locked, or let go: what the frame tells stays -/
def Du (u : HO) : Prop := (∃ kvs, u = .dK kvs) ∨ ∃ kvs, u = .dT kvs
def Lk (d : Addr) (H H' : Hp) : Prop := (∀ b, b ≠ d → H' b = H b) ∧ ∃ o u, Du u ∧ ((H d = some u ∧ H' d = some (.frz o u)) ∨ (H d = some (.frz o u) ∧ H' d = some u))
theorem Du.nf {u : HO} (h : Du u) : ∀ o w, u ≠ .frz o w := by rcases h with ⟨_, rfl⟩ | ⟨_, rfl⟩ <;> exact fun _ _ z => nomatch z
theorem Du.nt {u : HO} (h : Du u) : ∀ xs, u ≠ .tup xs := by rcases h with ⟨_, rfl⟩ | ⟨_, rfl⟩ <;> exact fun _ z => nomatch z
theorem Du.ni {u : HO} (h : Du u) : ∀ a b c, u ≠ .ins a b c := by rcases h with ⟨_, rfl⟩ | ⟨_, rfl⟩ <;> exact fun _ _ _ z => nomatch z
theorem Du.nx {u : HO} (h : Du u) : ∀ a, u ≠ .xd a := by rcases h with ⟨_, rfl⟩ | ⟨_, rfl⟩ <;> exact fun _ z => nomatch z
section
variable {d a : Addr} {H H' H1 : Hp} {u w : HO} {o : Obj} {K : PySem.W.Frag} {G : Addr → Prop}
theorem lk_lock (e : H d = some u) (h : Du u) : Lk d H (upd H d (.frz o u)) := ⟨fun b n => upd_ne n, o, u, h, .inl ⟨e, upd_same⟩⟩
theorem lk_unl (e : H d = some (.frz o u)) (h : Du u) : Lk d H (upd H d u) := ⟨fun b n => upd_ne n, o, u, h, .inr ⟨e, upd_same⟩⟩
theorem Lk.rd (l : Lk d H H') (n : ∀ o v, w ≠ .frz o v) (h : Rd H a w) : Rd H' a w := by
  by_cases z : a = d
  · subst z
    obtain ⟨_, o, u, du, ⟨e1, e2⟩ | ⟨e1, e2⟩⟩ := l
    · rcases h with h | ⟨o', h⟩ <;> rw [e1] at h
      · cases h; exact .inr ⟨o, e2⟩
      · exact absurd (Option.some.inj h) (du.nf _ _)
    · rcases h with h | ⟨o', h⟩ <;> rw [e1] at h
      · exact absurd (Option.some.inj h).symm (n _ _)
      · cases h; exact .inl e2
  · unfold Rd at h ⊢
    rw [l.1 a z]
    exact h
theorem Lk.alive (l : Lk d H H') : H' d ≠ none ∧ H d ≠ none := by
  obtain ⟨_, o, u, du, ⟨e1, e2⟩ | ⟨e1, e2⟩⟩ := l <;> rw [e1, e2] <;> exact ⟨(fun z => nomatch z), fun z => nomatch z⟩
theorem Lk.keep (l : Lk d H H') (n : ∀ o, H d = some o → o = w → False) (h : H a = some w) : H' a = some w := by
  by_cases z : a = d
  · subst z; exact (n _ h rfl).elim
  · rw [l.1 a z]; exact h
theorem Lk.keepI (l : Lk d H H') (n1 : ∀ u, Du u → u ≠ w) (n2 : ∀ o u, w ≠ .frz o u) (h : H a = some w) : H' a = some w := by
  refine l.keep (fun o e z => ?_) h
  subst z
  obtain ⟨_, o', u, du, ⟨e1, _⟩ | ⟨e1, _⟩⟩ := l <;> rw [e1] at e
  · exact n1 u du (Option.some.inj e)
  · exact n2 _ _ (Option.some.inj e).symm
theorem Lk.nt (l : Lk d H H') (h : NT H a) : NT H' a := by
  by_cases z : a = d
  · subst z
    obtain ⟨_, o, u, du, ⟨e1, e2⟩ | ⟨e1, e2⟩⟩ := l
    · exact .of e2
    · exact .of e2 du.nt
  · exact h.eq (l.1 a z)
theorem Lk.none (l : Lk d H H') : H' a = none ↔ H a = none := by
  by_cases z : a = d
  · subst z
    exact ⟨fun q => absurd q l.alive.1, fun q => absurd q l.alive.2⟩
  · rw [l.1 a z]
theorem CellR.lk {t : T} {vs : List V} (l : Lk d H H') (h : CellR K H a t vs) : CellR K H' a t vs := by
  unfold CellR at h ⊢
  split at h
  · exact l.rd (fun _ _ z => nomatch z) h
  · exact l.keepI (fun u du => du.nt _) (fun _ _ z => nomatch z) h
  · exact ⟨h.1, l.rd (fun _ _ z => nomatch z) h.2⟩
  · exact ⟨h.1, l.rd (fun _ _ z => nomatch z) h.2⟩
  · obtain ⟨h0, dx, h⟩ := h
    exact ⟨h0, dx, l.keepI (fun u du => du.ni _ _ _) (fun _ _ z => nomatch z) h⟩
  · exact h.elim
theorem Cell.lk {t : T} {vs : List V} (l : Lk d H H') (n : a ≠ d) (h : Cell K H a t vs) : Cell K H' a t vs := h.keep fun o e => by rw [l.1 a n]; exact e
mutual
theorem Df.lk (l : Lk d H H') : ∀ {v : V} {t : T}, Df K G H v t → Df K G H' v t
  | _, _, .sc h => .sc h
  | _, _, .nd n c r => .nd n (c.lk l) (DfL.lk l r)
theorem DfL.lk (l : Lk d H H') : ∀ {vs : List V} {ts : List T}, DfL K G H vs ts → DfL K G H' vs ts
  | _, _, .nil => .nil
  | _, _, .cons h r => .cons (Df.lk l h) (DfL.lk l r)
end
mutual
theorem Ow.lk (l : Lk d H H') : ∀ {s : Sh} {F : List Addr} {v : V} {t : T}, d ∉ F → Ow K G H s F v t → Ow K G H' s F v t
  | _, _, _, _, _, .fz h => .fz (h.lk l)
  | _, _, _, _, n, .nd c k r => .nd (c.lk l fun z => n (by rw [z]; exact List.mem_cons_self ..)) k (OwL.lk l (fun z => n (List.mem_cons_of_mem _ z)) r)
  | _, _, _, _, _, .optN => .optN
  | _, _, _, _, n, .optS h => .optS (Ow.lk l n h)
theorem OwL.lk (l : Lk d H H') : ∀ {ss : List Sh} {F : List Addr} {vs : List V} {ts : List T}, d ∉ F → OwL K G H ss F vs ts → OwL K G H' ss F vs ts
  | _, _, _, _, _, .nil => .nil
  | _, _, _, _, n, .cons h r => .cons (Ow.lk l (fun z => n (List.mem_append_left _ z)) h) (OwL.lk l (fun z => n (List.mem_append_right _ z)) r)
end
variable {sh : Nat → Sh} {W : Addr → Prop} {X : List Addr} {Fm Fm' : Nat → List Addr} {σ : L2.St} {δ : Dl} {s : Sh} {F : List Addr} {v : V} {t : T}
theorem Sr.lk (l : Lk d H H') (n : d ∉ F) (h : Sr K X Fm W H s F v t) : Sr K X Fm W H' s F v t := by
  rcases h with (⟨h1, h2, h3⟩ | ⟨h1, a, e, c, f, u, h2, h3, h4, h5, h6⟩) | h
  · exact .inl (.inl ⟨h1, h2, h3.lk l⟩)
  · exact .inl (.inr ⟨h1, a, e, c, f, u, h2, h3, h4, l.keepI (fun u du => du.nx _) (fun _ _ z => nomatch z) h5, h6.lk l⟩)
  · exact .inr (h.lk l n)
theorem Fr.lk (f : Fr K sh W X Fm H σ δ) (l : Lk d H H') (n : ¬ Om Fm d) : Fr K sh W X Fm H' σ δ :=
  ⟨fun i t h => by obtain ⟨v, h1, h2⟩ := f.rel i t h; exact ⟨v, h1, h2.lk l fun z => n ⟨i, z⟩⟩, f.un, f.nd, f.dj, f.dw, fun a z => l.nt (f.wl a z), f.len, f.xn, f.xd, f.xw, fun a z => l.nt (f.xl a z)⟩
/-- from the lock to the end: as if it had not been -/
theorem Xt.lk {U U' : Addr → Prop} (e : H d = some u) (du : Du u) (n : ¬ U d) (x : Xt U U' (upd H d (.frz o u)) H1) : H1 d = some (.frz o u) ∧ Xt U U' H (upd H1 d u) := by
  have h1 : H1 d = some (.frz o u) := x.1.1 d _ n upd_same
  have l1 : Lk d H (upd H d (.frz o u)) := lk_lock e du
  have l2 : Lk d H1 (upd H1 d u) := lk_unl h1 du
  refine ⟨h1, ⟨fun a w nu q => ?_, fun a q => ?_, fun a q => l2.nt (x.1.2.2 a (l1.nt q))⟩, fun a q => (x.2 a q).imp id fun y => l1.none.mp y⟩
  · by_cases z : a = d
    · subst z; rw [upd_same, ← q, e]
    · rw [upd_ne z]
      exact x.1.1 a w nu (by rw [upd_ne z]; exact q)
  · exact fun y => x.1.2.1 a (fun y2 => q (l1.none.mp y2)) (l2.none.mp y)
end
/-! ### for k in d -/
def keyT : Key → T
  | .inl i => .int i
  | .inr s => .str s
def keyOk : Key → Bool
  | .inl _ => true
  | .inr s => PyData.strOk s
def itK : T → Option (List T)
  | .dic ks ts => if ks.length = ts.length ∧ ks.all keyOk = true then some (ks.map keyT) else none
  | .dit ks ts => if ks.length = ts.length ∧ (ks.all fun k => k.all keyOk) = true then some (ks.map fun k => .tup (k.map keyT)) else none
  | _ => none
def noX : Ss → Ss
  | some (.exc _, _) => none
  | r => r
def sForK (f : Dl → Rs) (g : Gf) (b : Sf) : Sf := fun δ => match f δ with
  | none => none
  | some (.error e, δ') => some (.exc e, δ')
  | some (.ok t, δ') => match itK t with
    | some ts => noX (forM ts g b δ')
    | none => none
section
variable {K : PySem.W.Frag} {c : Cf} {Wx : WX} {W : Addr → Prop} {Y : List Addr} {Fm : Nat → List Addr} {H : Hp} {σ : L2.St} {δ : Dl} {g : Gf} {b : Sf} {ns : List Nat} {D : Ends} {J : It} {ts : List T} {d : Addr} {o : Obj} {G : Addr → Prop}
end
section
variable {X : Cx} {K : PySem.W.Frag} {c : Cf} {Wx : WX} {W : Addr → Prop} {Y : List Addr} {Fm : Nat → List Addr} {H : Hp} {σ : L2.St} {δ : Dl} {g : Gf} {b : Sf} {ns : List Nat} {D : Ends} {d : Addr} {u : HO} {o : Obj} {r : Ss} {N : L2.St → Hp → Prop} {δ' : Dl}
theorem Kx.lk (e : H d = some u) (du : Du u) (n : ¬ Om Fm d) (nf : NL.NoF X d) (k : Kx K c W Y Fm σ H δ' N) :
    Kx K c W Y Fm σ (upd H d (.frz o u)) δ' fun σ' H' => N σ' H' ∨ ∃ d od u, H' d = some (.frz od u) ∧ NL.NoF X d ∧ N σ' (upd H' d u) := fun σ' H' Fm' kp fr xt => by
  obtain ⟨h1, x2⟩ := xt.lk e du n
  refine .inr ⟨d, o, u, h1, nf, k σ' _ Fm' kp (fr.lk (lk_unl h1 du) fun z => ?_) x2⟩
  exact (x2.2 d z).elim n fun q => by rw [q] at e; cases e
theorem Df.dic {G : Addr → Prop} {x : V} {ks : List Key} {ts : List T} (h : Df K G H x (.dic ks ts)) : ∃ a vs, x = .ref a ∧ ¬ G a ∧ ks.length = vs.length ∧ Rd H a (.dK (ks.zip vs)) := by
  cases h with
  | sc h => exact h.elim
  | nd n c r => exact ⟨_, _, rfl, n, c.1, c.2⟩
theorem Df.dit {G : Addr → Prop} {x : V} {ks : List (List Key)} {ts : List T} (h : Df K G H x (.dit ks ts)) : ∃ a vs, x = .ref a ∧ ¬ G a ∧ ks.length = vs.length ∧ Rd H a (.dT (ks.zip vs)) := by
  cases h with
  | sc h => exact h.elim
  | nd n c r => exact ⟨_, _, rfl, n, c.1, c.2⟩
variable {tg e : Expr} {f : Dl → Rs} {body : List Stmt} {pos : Pos}
end
end NQ
namespace NQ
open PySem L2
/-! ### x = a part of what is one's own: the part is x's from here on, the rest is let go -/
def sMov (i j : Nat) (πf : Pf) : Sf := fun δ => match πf δ, dAt δ i with
  | some π, some t => match getP t π with
    | some t' => if j < δ.length then some (.nx, (δ.set i none).set j (some t')) else none
    | none => none
  | _, _ => none
section
variable {X : Cx} {K : PySem.W.Frag} {c : Cf} {Wx : WX} {rest : List Stmt} {G : Sf} {e : Expr} {pos : Pos} {i j : Nat} {πf : Pf}
end
/-! ### a list whose items are one's own: new ones, or variables that are given away -/
inductive Oo where
  | new (f : Dl → Rs) | mov (i : Nat)
def runO : List (Sh × Oo) → Dl → Option (Except Xn (List T) × Dl)
  | [], δ => some (.ok [], δ)
  | (_, .new f) :: r, δ => match f δ with
    | none => none
    | some (.error e, δ') => some (.error e, δ')
    | some (.ok t, δ1) => match runO r δ1 with
      | some (.ok ts, δ') => some (.ok (t :: ts), δ')
      | some (.error e, δ') => some (.error e, δ')
      | none => none
  | (_, .mov i) :: r, δ => match dAt δ i with
    | none => none
    | some t => match runO r (δ.set i none) with
      | some (.ok ts, δ') => some (.ok (t :: ts), δ')
      | some (.error e, δ') => some (.error e, δ')
      | none => none
def fLstO (os : List (Sh × Oo)) : Dl → Rs := fun δ => match runO os δ with
  | none => none
  | some (.error e, δ') => some (.error e, δ')
  | some (.ok ts, δ') => if ts.length ≤ sizeLine then some (.ok (.lst ts), δ') else none
section
variable {K : PySem.W.Frag} {sh : Nat → Sh} {Wx : WX} {W : Addr → Prop} {Y F : List Addr} {Fm Fm0 : Nat → List Addr} {H H0 : Hp} {σ : L2.St} {δ δ' : Dl} {e : Xn} {G : Addr → Prop}
theorem OwL.app : ∀ {ss ss' : List Sh} {F F' : List Addr} {vs vs' : List V} {ts ts' : List T}, OwL K G H ss F vs ts → OwL K G H ss' F' vs' ts' → OwL K G H (ss ++ ss') (F ++ F') (vs ++ vs') (ts ++ ts')
  | _, _, _, _, _, _, _, _, .nil, h => h
  | _, _, _, _, _, _, _, _, .cons h r, q => by
    have := OwL.cons h (OwL.app r q)
    rw [← List.append_assoc] at this
    exact this
theorem OwL.len : ∀ {ss : List Sh} {F : List Addr} {vs : List V} {ts : List T}, OwL K G H ss F vs ts → ss.length = ts.length ∧ vs.length = ts.length
  | _, _, _, _, .nil => ⟨rfl, rfl⟩
  | _, _, _, _, .cons _ r => ⟨congrArg Nat.succ r.len.1, congrArg Nat.succ r.len.2⟩
end
section
variable {X : Cx} {K : PySem.W.Frag} {sh : Nat → Sh} {Wx : WX} {es : List Expr} {pos : Pos} {s S : Sh} {os : List (Sh × Oo)}
end
end NQ
namespace PySem
open Sem (wp)
section
variable {prog : Program} {w : World} {K : Type} [DecidableEq K] {knd : KeyKind prog w K} {A : Around} {E : Value → Shared → Prop} {s : Shared}
theorem IsTupleKey.more {h h' : Heap} {ks : List K} {a : Addr} (x : IsTupleKey knd h ks a) (k : ∀ o, h.get? a = some o → h'.get? a = some o) : IsTupleKey knd h' ks a := by
  obtain ⟨o, its, n, h1, r⟩ := x
  exact ⟨o, its, n, k _ h1, r⟩
end
end PySem
namespace L2
open PySem PySem.Spec PyProof.Rows
section
variable {X : Cx}
end
end L2
namespace NQ
open PySem L2
/-! ### dict(d), d's keys tuples of ints whose hashes differ -/
section
variable {X : Cx} {K : PySem.W.Frag} {a : Expr} {pos p : Pos}
end
end NQ
namespace NQ
open PySem L2
/-! ### f(e): e is made for the call alone -/
def fCallT (F : List T → Fo) (f : Dl → Rs) : Dl → Rs := fun δ => match f δ with
  | none => none
  | some (.error e, δ') => some (.error e, δ')
  | some (.ok t, δ') => match F [t] with
    | some (.ret r, _) => some (.ok r, δ')
    | some (.exc e, _) => some (.error e, δ')
    | none => none
section
variable {K : PySem.W.Frag} {sh : Nat → Sh} {W U : Addr → Prop} {Y F1 : List Addr} {Fm Fm1 : Nat → List Addr} {H H' H1 : Hp} {σ : L2.St} {δ : Dl} {s : Sh} {x : V} {t : T}
end
section
variable {X : Cx} {K : PySem.W.Frag} {sh : Nat → Sh} {Wx : WX} {s : Sh} {F : List T → Fo} {f : Dl → Rs} {k : Nat} {x : Str} {e : Expr} {params : List Str} {p pos : Pos}
end
end NQ
namespace NL
open PySem PySem.Spec PyProof.Rows L2
/-! ### several clauses, with or without a name, and an else -/
abbrev Wc := Addr → Value → Option Addr → TS
/-- a clause with a name: the slot i holds the exception while the suite runs -/
def asW (i : Nat) (ts : Wc) : Wc := fun a cls d D σ H => ts a cls d { D with nx := fun τ G => D.nx (τ.set i none) G, bk := fun τ G => D.bk (τ.set i none) G, ct := fun τ G => D.ct (τ.set i none) G } (σ.set i (some (.ref a))) H
inductive HdA (X : Cx) : List ExceptHandler → List (Value × Wc) → Prop
  | nil : HdA X [] []
  | one {x : Str} {c : Value} {ts : Wc} {b₀ : Stmt} {suite : List Stmt} {np q0 : Pos} {hds : List ExceptHandler} {l : List (Value × Wc)} (hc : Names X x c)
      (hsu : ∀ (a : Addr) (o0 : Obj) (cls : Value) (d : Option Addr) (pn : List (Addr × Obj)), Zc cls d o0 → (∃ vs, o0.data = .fields vs) → PSs (X.suite a ((a, o0) :: pn)) (b₀ :: suite) (ts a cls d)) (r : HdA X hds l) :
      HdA X (.ExceptHandler (some (.Name x np)) none (b₀ :: suite) q0 :: hds) ((c, ts) :: l)
  | named {x n : Str} {i : Nat} {c : Value} {ts : Wc} {b₀ : Stmt} {suite : List Stmt} {np q0 : Pos} {hds : List ExceptHandler} {l : List (Value × Wc)} (hc : Names X x c) (hi : X.N[i]? = some n) (hln : X.env.kindOf n = some .local)
      (hsu : ∀ (a : Addr) (o0 : Obj) (cls : Value) (d : Option Addr) (pn : List (Addr × Obj)), Zc cls d o0 → (∃ vs, o0.data = .fields vs) → PSs (X.suite a ((a, o0) :: pn)) (b₀ :: suite) (ts a cls d)) (r : HdA X hds l) :
      HdA X (.ExceptHandler (some (.Name x np)) (some n) (b₀ :: suite) q0 :: hds) ((c, asW i ts) :: l)
section
variable {X : Cx} {body orelse : List Stmt} {h₀ : ExceptHandler} {hds : List ExceptHandler} {l : List (Value × Wc)} {pos : Pos} {tb : WX → TS} {Wout : WX} {u : TS}
end
end NL
namespace NQ
open PySem L2
/-! ### try with several clauses and an else -/
inductive Hx where
  | one (m : List (Str × Bool)) (G : Sf)
  | as (m : List (Str × Bool)) (fl : Str) (i : Nat) (G : Xn → Sf)
def hdM : List Hx → Xn → Dl → Ss
  | [], e, δ => some (.exc e, δ)
  | .one m G :: r, e, δ => match m.lookup e.cls with
    | some true => (match G δ with
      | some (.exc _, _) => none
      | r => r)
    | some false => hdM r e δ
    | none => none
  | .as m fl i G :: r, e, δ => match m.lookup e.cls with
    | some true => if e.fld = fl ∧ i < δ.length then (match G e (δ.set i (some e.val)) with
      | some (.exc _, _) => none
      | some (fl, δ2) => some (fl, δ2.set i none)
      | none => none) else none
    | some false => hdM r e δ
    | none => none
def sTryA (hs : List Hx) (F E : Sf) : Sf := fun δ => match F δ with
  | some (.exc e, δ') => hdM hs e δ'
  | some (.nx, δ') => E δ'
  | r => r
abbrev noWx : WX := fun _ _ _ _ => False
def tsAs (X : Cx) (c : Cf) (fl : Str) (i : Nat) (G : Xn → Sf) : NL.Wc := fun a cls dd => fun D σ H => ∃ (d : Addr) (e : Xn), cls = .ref (He.ga X.K e.cls) ∧ dd = some d ∧ XfC X.K (He.ga X.K e.cls) ∧ PySem.W.findIn X.K (.ref (He.ga X.K e.cls)) fl = some none ∧ SF X.K (c.xcAt i a d e.cls fl) noWx (G e) D σ H
inductive HdQ (X : Cx) (c : Cf) : List ExceptHandler → List (Value × NL.Wc) → List Hx → Prop
  | nil : HdQ X c [] [] []
  | one {x : Str} {cv : Value} {m : List (Str × Bool)} {G : Sf} {b₀ : Stmt} {suite : List Stmt} {np q0 : Pos} {hds : List ExceptHandler} {l : List (Value × NL.Wc)} {hs : List Hx} (hm : ExO X.K cv m) (hc : Names X x cv)
      (hsu : ∀ (a : Addr) (o0 : Obj) (pn : List (Addr × Obj)), PSs (X.suite a ((a, o0) :: pn)) (b₀ :: suite) (SF X.K c noWx G)) (r : HdQ X c hds l hs) :
      HdQ X c (.ExceptHandler (some (.Name x np)) none (b₀ :: suite) q0 :: hds) ((cv, fun _ _ _ => SF X.K c noWx G) :: l) (.one m G :: hs)
  | named {x n : Str} {fl : Str} {i : Nat} {cv : Value} {m : List (Str × Bool)} {G : Xn → Sf} {b₀ : Stmt} {suite : List Stmt} {np q0 : Pos} {hds : List ExceptHandler} {l : List (Value × NL.Wc)} {hs : List Hx} (hm : ExT X.K cv fl m) (hc : Names X x cv) (hi : X.N[i]? = some n) (hln : X.env.kindOf n = some .local)
      (hsu : ∀ (a d : Addr) (o0 : Obj) (e : Xn) (pn : List (Addr × Obj)), Zc (.ref (He.ga X.K e.cls)) (some d) o0 → (∃ vs, o0.data = .fields vs) → XfC X.K (He.ga X.K e.cls) → PySem.W.findIn X.K (.ref (He.ga X.K e.cls)) fl = some none → PSs (X.suite a ((a, o0) :: pn)) (b₀ :: suite) (SF X.K (c.xcAt i a d e.cls fl) noWx (G e)))
      (hsh : c.sh i = .fz) (hp : c.pr i = false) (r : HdQ X c hds l hs) :
      HdQ X c (.ExceptHandler (some (.Name x np)) (some n) (b₀ :: suite) q0 :: hds) ((cv, NL.asW i (tsAs X c fl i G)) :: l) (.as m fl i G :: hs)
section
variable {X : Cx} {c : Cf} {Wx : WX} {hds : List ExceptHandler} {l : List (Value × NL.Wc)} {hs : List Hx} {W : Addr → Prop} {Y : List Addr}
theorem HdQ.a (h : HdQ X c hds l hs) : NL.HdA X hds l := by
  induction h with
  | nil => exact .nil
  | one hm hc hsu r ih => exact .one hc (fun a oe cls dd pn _ _ => hsu a oe pn) ih
  | named hm hc hi hln hsu hsh hp r ih =>
    refine .named hc hi hln (fun a oe cls dd pn hz hv => ⟨fun pins s σ H D I h => ?_⟩) ih
    obtain ⟨d, e, rfl, rfl, h1, h2, h⟩ := h
    exact (hsu a d oe e pn hz hv h1 h2).run pins s σ H D I h
variable {body orelse : List Stmt} {h₀ : ExceptHandler} {pos : Pos} {F E : Sf} {K : PySem.W.Frag}
end
end NQ
namespace NQ
open PySem L2
/-! ### in a clause with a name: isinstance of the caught exception -/
def KtT (K : PySem.W.Frag) (cv : Value) : List (Str × Bool) → Prop
  | [] => True
  | (x, b) :: r => ExcC K (He.ga K x) ∧ PySem.W.kitOne K (.ref (He.ga K x)) cv = some b ∧ KtT K cv r
theorem KtT.at {K : PySem.W.Frag} {cv : Value} : ∀ {l : List (Str × Bool)} {x : Str} {b : Bool}, KtT K cv l → l.lookup x = some b → ExcC K (He.ga K x) ∧ PySem.W.kitOne K (.ref (He.ga K x)) cv = some b
  | [], _, _, _, h => by simp at h
  | (y, d) :: r, x, b, ⟨h1, h2, h3⟩, e => by
    rw [List.lookup_cons] at e
    split at e
    · rename_i q
      cases e
      rw [eq_of_beq q]
      exact ⟨h1, h2⟩
    · exact KtT.at h3 e
def isXq (i : Nat) (mk : List (Str × Bool)) (cl : Str) : Qf := fun δ => match dAt δ i, mk.lookup cl with
  | some _, some b => some (.bl b)
  | _, _ => none
section
variable {X : Cx} {K : PySem.W.Frag} {sh : Nat → Sh} {a d : Addr} {oe : Obj} {pn : List (Addr × Obj)} {cl fl y : Str} {o ce : Expr} {p pos : Pos} {mk : List (Str × Bool)}
end
end NQ
namespace NQ
open PySem L2
/-! ### walking rules of the younger combinators -/
section
variable {F G : Sf} {f g h : Dl → Rs} {u v w : Qf} {δ δ2 : Dl} {i j : Nat} {op op' : Op} {os : List Opd} {x y t : T} {ts us : List T} {gp : Gf} {its : Il} {cl : Str} {πf : Pf}
variable {N B C : Dl → Prop} {R : T → Dl → Prop} {E : Xn → Dl → Prop} {Q : T → Dl → Prop} {q : T → Prop} {QL : List T → Dl → Prop}
theorem ws_par2 (z : We (f δ) (fun t δ1 => We (g δ1) (fun u δ2 => Sd (i < δ2.length ∧ j < δ2.length) (Nm ((δ2.set i (some t)).set j (some u)) N)) E) E) : Ws (sPar2 i j f g δ) N B C R E := by
  unfold sPar2
  rcases we_c z with ⟨t0, d0, e0, z⟩ | ⟨t0, d0, e0, z⟩ <;> simp only [e0]
  rotate_left
  · exact z
  rcases we_c z with ⟨t1, d1, e1, hl, z⟩ | ⟨t1, d1, e1, z⟩ <;> simp only [e1]
  · simp only [hl, and_self, if_true]; exact z
  · exact z
/-- a path and what lies there -/
def Pw (r : Option (List Pt)) (P : List Pt → Prop) : Prop := ∃ π, r = some π ∧ P π
theorem pw_nil {P : List Pt → Prop} (z : P []) : Pw (pNil δ) P := ⟨_, rfl, z⟩
theorem pw_fld {c fl : Str} {P : List Pt → Prop} (z : Pw (πf δ) fun π => P (π ++ [.fld c fl])) : Pw (pFld πf c fl δ) P := by
  obtain ⟨π, e, z⟩ := z
  exact ⟨_, by unfold pFld; rw [e], z⟩
theorem pw_ix {P : List Pt → Prop} (z : Pw (πf δ) fun π => Wq (u δ) fun k => Is k T.int fun n => P (π ++ [.ix n])) : Pw (pIx πf u δ) P := by
  obtain ⟨π, e, z⟩ := z
  obtain ⟨k, e1, n, rfl, z⟩ := wq_ex z
  exact ⟨_, by unfold pIx; rw [e, e1], z⟩
theorem wq_ePq (z : Pw (πf δ) fun π => At δ i fun t => So (getP t π) q) : Wq (ePq i πf δ) q := by
  obtain ⟨π, e, t, e1, u, e2, z⟩ := z
  unfold ePq
  rw [e, e1]
  simp only [e2]
  exact z
theorem ws_mov (z : Pw (πf δ) fun π => At δ i fun t => So (getP t π) fun t' => Sd (j < δ.length) (Nm ((δ.set i none).set j (some t')) N)) : Ws (sMov i j πf δ) N B C R E := by
  obtain ⟨π, e, t, e1, u, e2, hl, z⟩ := z
  unfold sMov
  rw [e, e1]
  simp only [e2, hl, if_true]
  exact z
def Bk (i j : Nat) (n : Nat) (π : List Pt) (t : T) (P : Dl → Prop) : Dl → Prop := fun δ' => At δ' j fun w => So (setP t π w) fun t2 => Sd (i < δ'.length ∧ j < n) (Nm ((δ'.set j none).set i (some t2)) P)
theorem ws_bor (z : Pw (πf δ) fun π => At δ i fun t => So (getP t π) fun t' => Nm ((δ.set i none).set j (some t')) fun δ1 => Ws (G δ1) (Bk i j δ.length π t N) (Bk i j δ.length π t B) (Bk i j δ.length π t C) (fun r => Bk i j δ.length π t (R r)) (fun e => Bk i j δ.length π t (E e))) : Ws (sBor i j πf G δ) N B C R E := by
  obtain ⟨π, e, t, e1, t', e2, z⟩ := z
  unfold Nm at z
  try dsimp only at z
  unfold sBor
  rw [e, e1]
  simp only [e2]
  obtain ⟨fl, δ', e3, z⟩ := ws_c z
  simp only [e3]
  have key : ∀ {P : Dl → Prop}, Bk i j δ.length π t P δ' → ∃ w t2, dAt δ' j = some w ∧ setP t π w = some t2 ∧ (i < δ'.length ∧ j < δ.length) ∧ P ((δ'.set j none).set i (some t2)) := fun ⟨w, a1, t2, a2, a3, a4⟩ => ⟨w, t2, a1, a2, a3, a4⟩
  cases fl with
  | nx => obtain ⟨w, t2, a1, a2, a3, a4⟩ := key z; simp only [a1, a2, a3, and_self, if_true]; exact a4
  | brk => obtain ⟨w, t2, a1, a2, a3, a4⟩ := key z; simp only [a1, a2, a3, and_self, if_true]; exact a4
  | cont => obtain ⟨w, t2, a1, a2, a3, a4⟩ := key z; simp only [a1, a2, a3, and_self, if_true]; exact a4
  | ret r => obtain ⟨w, t2, a1, a2, a3, a4⟩ := key (P := R r) z; simp only [a1, a2, a3, and_self, if_true]; exact a4
  | exc r => obtain ⟨w, t2, a1, a2, a3, a4⟩ := key (P := E r) z; simp only [a1, a2, a3, and_self, if_true]; exact a4
theorem bk_mk {n : Nat} {π : List Pt} {P : Dl → Prop} (z : At δ j fun w => So (setP t π w) fun t2 => Sd (i < δ.length ∧ j < n) (Nm ((δ.set j none).set i (some t2)) P)) : Bk i j n π t P δ := z
def enS : T → Option (List T)
  | .lst ts => some ts
  | .tup ts => some ts
  | .ctup ts => some ts
  | _ => none
theorem wi_en2 (z : We (f δ) (fun t δ' => So (enS t) fun ts => QL (enT ts) δ') E) : Wi (itEn2 f δ) QL E := by
  unfold itEn2
  rcases we_c z with ⟨t0, d0, e0, ts, e1, z⟩ | ⟨t0, d0, e0, z⟩ <;> simp only [e0]
  · cases t0 <;> first | cases e1 | skip
    all_goals exact z
  · exact z
theorem mkn {o : T} {r : List T} {P : T → Prop} (z : P o) : T.non = .non ∧ ∃ o' r', o :: r = o' :: r' ∧ P o' := ⟨rfl, o, r, rfl, z⟩
theorem mthF {m : Str} {fs : List Str} {P : Prop} (hm : m ∉ fs) (z : P) : ∃ fs' ts', T.ins cl fs ts = .ins cl fs' ts' ∧ m ∉ fs' ∧ P := ⟨fs, ts, rfl, hm, z⟩
theorem insAt_c {cl : Str} {j : Nat} {js : List Nat} {ts : List T} {fs : List Str} {us : List T} (h : ts[j]? = some (.ins cl fs us)) (z : insAt cl js ts = true) : insAt cl (j :: js) ts = true := by
  unfold insAt
  rw [h]
  simp only [decide_true, Bool.true_and]
  exact z
theorem wi_z (z : We (f δ) (fun t δ1 => We (g δ1) (fun u δ' => So (zipT t u) fun ts => QL ts δ') E) E) : Wi (itZ f g δ) QL E := by
  unfold itZ
  rcases we_c z with ⟨t0, d0, e0, z⟩ | ⟨t0, d0, e0, z⟩ <;> simp only [e0]
  rotate_left
  · exact z
  rcases we_c z with ⟨t1, d1, e1, ts, e2, z⟩ | ⟨t1, d1, e1, z⟩ <;> simp only [e1]
  · simp only [e2]; exact z
  · exact z
theorem we_sp {js : List Nat} {ps : List Sh} {Ff : List T → Fo} (z : Wa os δ (fun ts δ' => Sd (insAt cl js ts = true) (Wf (Ff ts) (fun t l => Sd (l.length = ps.length) (Nm (wb ps (skO os) l δ') (Q t))) fun e l => Sd (l.length = ps.length) (Nm (wb ps (skO os) l δ') (E e)))) E) : We (fSp cl js ps Ff os δ) Q E := by
  unfold fSp
  rcases wa_c z with ⟨l0, d0, ts0, e1, e2, h, z⟩ | ⟨t0, d0, e1, z⟩
  · simp only [e1, e2, h, if_true]
    rcases wf_or z with ⟨t, l, e3, h, z⟩ | ⟨t, l, e3, h, z⟩
    · simp only [e3, h, if_true]; exact z
    · simp only [e3, h, if_true]; exact z
  · simp only [e1]; exact z
theorem ws_setO {ps : List Sh} {Ff : List T → Fo} (z : We (f δ) (fun t δ1 => At δ1 i fun o => Wq (u δ1) fun k => Sd (∃ fs us, o = .ins cl fs us) (Wf (Ff [o, k, t]) (fun r l => Sd (l.length = ps.length) (So l.head? fun o' => Nm (δ1.set i (some o')) N)) fun e l => Sd (l.length = ps.length) (So l.head? fun o' => Nm (δ1.set i (some o')) (E e)))) E) : Ws (sSetO cl ps Ff i u f δ) N B C R E := by
  unfold sSetO
  rcases we_c z with ⟨t0, d0, e0, o, e1, z⟩ | ⟨t0, d0, e0, z⟩ <;> simp only [e0]
  rotate_left
  · exact z
  obtain ⟨k, e2, ⟨fs, us, rfl⟩, z⟩ := wq_ex z
  simp only [e1, e2, if_true]
  rcases wf_or z with ⟨t, l, e3, hl, o', ho, z⟩ | ⟨t, l, e3, hl, o', ho, z⟩
  · cases l with
    | nil => cases ho
    | cons a r => cases ho; simp only [e3, hl, if_true]; exact z
  · cases l with
    | nil => cases ho
    | cons a r => cases ho; simp only [e3, hl, if_true]; exact z
theorem wq_notV (z : Wq (u δ) fun t => Wt (truW t) fun b => q (.bl (!b))) : Wq (notV u δ) q := by
  unfold notV
  obtain ⟨t, e, z⟩ := wq_ex z
  obtain ⟨b, e1, z⟩ := wt_ex z
  simp only [e, e1]; exact z
theorem we_notW (z : We (f δ) (fun t δ' => Wt (truW t) fun b => Q (.bl (!b)) δ') E) : We (notW f δ) Q E := by
  unfold notW
  rcases we_c z with ⟨t0, d0, e0, z⟩ | ⟨t0, d0, e0, z⟩ <;> simp only [e0]
  · obtain ⟨b, e1, z⟩ := wt_ex z
    simp only [e1]; exact z
  · exact z
theorem we_tupRg (z : We (f δ) (fun t δ' => Is t T.int fun n => Sd (0 ≤ n ∧ n ≤ 16777216) (Q (.tup (rgT 0 n)) δ')) E) : We (tupRg f δ) Q E := by
  unfold tupRg
  rcases we_c z with ⟨t0, d0, e0, z⟩ | ⟨t0, d0, e0, z⟩ <;> simp only [e0]
  · obtain ⟨n, rfl, hl, z⟩ := z
    simp only [hl, and_self, if_true]; exact z
  · exact z
theorem we_lstRg (z : We (f δ) (fun t δ' => Is t T.int fun n => Sd (0 ≤ n ∧ n ≤ 16777216) (Q (.lst (rgT 0 n)) δ')) E) : We (lstRg f δ) Q E := by
  unfold lstRg
  rcases we_c z with ⟨t0, d0, e0, z⟩ | ⟨t0, d0, e0, z⟩ <;> simp only [e0]
  · obtain ⟨n, rfl, hl, z⟩ := z
    simp only [hl, and_self, if_true]; exact z
  · exact z
theorem we_ch (z : We (f δ) (fun x δ1 => We (g δ1) (fun y δ2 => Wq (op [x, y]) fun c => Is c T.bl fun k => if k = true then Wq (w δ2) (fun z => Wq (op' [y, z]) fun r => Q r δ2) else Q (.bl false) δ2) E) E) : We (chE op op' f g w δ) Q E := by
  unfold chE
  rcases we_c z with ⟨t0, d0, e0, z⟩ | ⟨t0, d0, e0, z⟩ <;> simp only [e0]
  rotate_left
  · exact z
  rcases we_c z with ⟨t1, d1, e1, z⟩ | ⟨t1, d1, e1, z⟩ <;> simp only [e1]
  rotate_left
  · exact z
  obtain ⟨c, e2, k, rfl, z⟩ := wq_ex z
  simp only [e2]
  cases k
  · exact z
  · rw [if_pos rfl] at z
    obtain ⟨a, e3, z⟩ := wq_ex z
    obtain ⟨r, e4, z⟩ := wq_ex z
    simp only [e3, e4]; exact z
theorem we_makeK {Ff : List T → Fo} {gT : List T → List T} (z : Wa os δ (fun us δ' => Wf (Ff (.ins cl [] [] :: gT us)) (fun t l => t = .non ∧ ∃ o r, l = o :: r ∧ Q o δ') fun e _ => E e δ') E) : We (fMakeK cl Ff gT os δ) Q E := by
  unfold fMakeK
  rcases wa_c z with ⟨l0, d0, ts0, e1, e2, z⟩ | ⟨t0, d0, e1, z⟩
  · simp only [e1, e2]
    rcases wf_or z with ⟨t, l, e3, rfl, o, r, rfl, z⟩ | ⟨t, l, e3, z⟩
    · simp only [e3]; exact z
    · simp only [e3]; exact z
  · simp only [e1]; exact z
theorem we_cm {ps : List Sh} {Ff : List T → Fo} (z : Wq (u δ) fun t => Sd (t = .gl cl) (We (fCall ps Ff (.val (qE u) :: os) δ) Q E)) : We (fCM cl ps Ff u os δ) Q E := by
  unfold fCM
  obtain ⟨t, e, rfl, z⟩ := wq_ex z
  simp only [e, if_true]; exact z
theorem ws_forK (z : We (f δ) (fun t δ' => So (itK t) fun ts => Ws (forM ts gp F δ') N B C R fun _ _ => False) E) : Ws (sForK f gp F δ) N B C R E := by
  unfold sForK
  rcases we_c z with ⟨t0, d0, e0, ts, e1, z⟩ | ⟨t0, d0, e0, z⟩ <;> simp only [e0]
  rotate_left
  · exact z
  simp only [e1]
  obtain ⟨fl, δ', e2, z⟩ := ws_c z
  rw [e2]
  cases fl <;> first | exact z | exact z.elim
def Wo (os : List (Sh × Oo)) (δ : Dl) (QL : List T → Dl → Prop) (E : Xn → Dl → Prop) : Prop := Wi (runO os δ) QL E
theorem wo_nil (z : QL [] δ) : Wo [] δ QL E := z
theorem wo_new {s : Sh} {r : List (Sh × Oo)} (z : We (f δ) (fun t δ1 => Wo r δ1 (fun ts δ' => QL (t :: ts) δ') E) E) : Wo ((s, .new f) :: r) δ QL E := by
  unfold Wo runO
  rcases we_c z with ⟨t0, d0, e0, z⟩ | ⟨t0, d0, e0, z⟩ <;> simp only [e0]
  rotate_left
  · exact z
  rcases wi_c z with ⟨t1, d1, e1, z⟩ | ⟨t1, d1, e1, z⟩ <;> simp only [e1] <;> exact z
theorem wo_mov {s : Sh} {r : List (Sh × Oo)} (e : dAt δ i = some x) (z : Nm (δ.set i none) fun δ1 => Wo r δ1 (fun ts δ' => QL (x :: ts) δ') E) : Wo ((s, .mov i) :: r) δ QL E := by
  unfold Nm at z
  try dsimp only at z
  unfold Wo runO
  simp only [e]
  rcases wi_c z with ⟨t1, d1, e1, z⟩ | ⟨t1, d1, e1, z⟩ <;> simp only [e1] <;> exact z
theorem we_lstO {os : List (Sh × Oo)} (z : Wo os δ (fun ts δ' => Sd (ts.length ≤ 16777216) (Q (.lst ts) δ')) E) : We (fLstO os δ) Q E := by
  unfold fLstO
  rcases wi_c z with ⟨t1, d1, e1, hl, z⟩ | ⟨t1, d1, e1, z⟩ <;> simp only [e1]
  · rw [if_pos (by rw [sz_eq]; exact hl)]; exact z
  · exact z
theorem we_callT {Ff : List T → Fo} (z : We (f δ) (fun t δ' => Wf (Ff [t]) (fun r _ => Q r δ') fun e _ => E e δ') E) : We (fCallT Ff f δ) Q E := by
  unfold fCallT
  rcases we_c z with ⟨t0, d0, e0, z⟩ | ⟨t0, d0, e0, z⟩ <;> simp only [e0]
  rotate_left
  · exact z
  rcases wf_or z with ⟨t, l, e3, z⟩ | ⟨t, l, e3, z⟩ <;> simp only [e3] <;> exact z
theorem ws_tryA {hs : List Hx} (z : Ws (F δ) (fun δ' => Ws (G δ') N B C R E) B C R fun e δ' => Ws (hdM hs e δ') N B C R E) : Ws (sTryA hs F G δ) N B C R E := by
  unfold sTryA
  obtain ⟨fl, δ', e, z⟩ := ws_c z
  rw [e]
  cases fl <;> exact z
theorem ws_hdN {e : Xn} (z : E e δ) : Ws (hdM [] e δ) N B C R E := z
theorem ws_hd1 {e : Xn} {m : List (Str × Bool)} {H : Sf} {hs : List Hx} (z : So (m.lookup e.cls) fun b => if b = true then Ws (H δ) N B C R fun _ _ => False else Ws (hdM hs e δ) N B C R E) : Ws (hdM (.one m H :: hs) e δ) N B C R E := by
  obtain ⟨b, e1, z⟩ := z
  unfold hdM
  simp only [e1]
  cases b with
  | false => exact z
  | true =>
    rw [if_pos rfl] at z
    obtain ⟨fl, δ', e2, z⟩ := ws_c z
    simp only [e2]
    cases fl <;> first | exact z | exact z.elim
theorem ws_hdA {e : Xn} {m : List (Str × Bool)} {fl : Str} {H : Xn → Sf} {hs : List Hx} (z : So (m.lookup e.cls) fun b => if b = true then Sd (e.fld = fl ∧ i < δ.length) (Nm (δ.set i (some e.val)) fun δ2 => Ws (H e δ2) (fun δ2 => Nm (δ2.set i none) N) (fun δ2 => Nm (δ2.set i none) B) (fun δ2 => Nm (δ2.set i none) C) (fun t δ2 => Nm (δ2.set i none) (R t)) fun _ _ => False) else Ws (hdM hs e δ) N B C R E) : Ws (hdM (.as m fl i H :: hs) e δ) N B C R E := by
  obtain ⟨b, e1, z⟩ := z
  unfold hdM
  simp only [e1]
  cases b with
  | false => exact z
  | true =>
    rw [if_pos rfl] at z
    obtain ⟨h2, z⟩ := z
    unfold Nm at z
    try dsimp only at z
    simp only [h2, and_self, if_true]
    obtain ⟨fl', δ', e2, z⟩ := ws_c z
    simp only [e2]
    cases fl' <;> first | exact z | exact z.elim
theorem wq_isX {mk : List (Str × Bool)} {c : Str} (z : At δ i fun _ => So (mk.lookup c) fun b => q (.bl b)) : Wq (isXq i mk c δ) q := by
  obtain ⟨t, e, b, e1, z⟩ := z
  unfold isXq
  rw [e, e1]
  exact z
theorem wo_ix_dt {ks : List (List Key)} {kk : List Key} (h : keysT us = some kk) (e : lookT ks ts kk = some y) (z : q y) : Wq (ixA [.dit ks ts, .tup us]) q := by
  have e1 : ixR [.dit ks ts, .tup us] = none := rfl
  have e2 : ixA [.dit ks ts, .tup us] = some y := by
    simp only [ixA, altT, ixR, ixD, dgetR, dgetD, dlook, h, e]
    cases hs : y.isS <;> simp [hs]
  rw [e2]; exact z
end
end NQ
namespace NQ
open PySem L2
/-- a list told by a function -/
def rg {α : Type} (n : Nat) (f : Nat → α) : List α := (List.range n).map f
section
variable {α β : Type} {n i : Nat} {f g : Nat → α}
theorem rg_len : (rg n f).length = n := by unfold rg; simp
end
theorem eqB_bb {a b : Bool} : eqB (.bl a) (.bl b) = some (decide (a = b)) := by cases a <;> cases b <;> decide +kernel
theorem atI2 {α : Type} {a b c : α} {r : List α} : atI (a :: b :: c :: r) 2 = some c := (atI_nat (n := 2) (by simp)).trans rfl
theorem atI3 {α : Type} {a b c d : α} {r : List α} : atI (a :: b :: c :: d :: r) 3 = some d := (atI_nat (n := 3) (by simp)).trans rfl
theorem atI4 {α : Type} {a b c d e : α} {r : List α} : atI (a :: b :: c :: d :: e :: r) 4 = some e := (atI_nat (n := 4) (by simp)).trans rfl
end NQ
namespace NL
open PySem PySem.Spec PyProof.Rows L2
/-! ### a == b by an own class's __eq__ -/
section
variable {X : Cx} {k : Nat} {C : Addr} {a b : Expr} {ta tb : TE} {pos : Pos} {ps : List Str} {sp : Sp} {W : WX}
end
end NL
namespace NQ
open PySem L2
section
variable {X : Cx} {K : PySem.W.Frag} {sh : Nat → Sh} {Wx : WX} {ps : List Sh} {rs : Sh} {F : List T → Fo} {o1 o2 : Opd} {cl : Str} {k : Nat} {o i a b e : Expr} {params : List Str} {pos : Pos}
end
end NQ
namespace NQ
open PySem L2
/-! ### tuples joined, both frozen -/
def addU : Op
  | [.tup xs, .tup ys] => if xs.length + ys.length ≤ sizeLine then some (.tup (xs ++ ys)) else none
  | _ => none
section
variable {X : Cx} {K : PySem.W.Frag} {sh : Nat → Sh} {Wx : WX} {e a b : Expr} {es : List Expr} {r : List V → Hp → VK → Prop} {op : Op} {l : List (Md × Qf)} {pos : Pos}
theorem wo_addU {xs ys : List T} {q : T → Prop} (h : xs.length + ys.length ≤ 16777216) (z : q (.tup (xs ++ ys))) : Wq (addU [.tup xs, .tup ys]) q := by
  have e : addU [.tup xs, .tup ys] = some (.tup (xs ++ ys)) := by
    show (if xs.length + ys.length ≤ sizeLine then some (T.tup (xs ++ ys)) else none) = _
    rw [if_pos (by rw [sz_eq]; exact h)]
  rw [e]; exact z
end
end NQ
namespace NQ
open PySem L2
/-! ### the kind of a wish, asked before its rules are tried -/
theorem g_ws {r : Ss} {N B C : Dl → Prop} {R : T → Dl → Prop} {E : Xn → Dl → Prop} (h : Ws r N B C R E) : Ws r N B C R E := h
theorem g_we {r : Rs} {Q : T → Dl → Prop} {E : Xn → Dl → Prop} (h : We r Q E) : We r Q E := h
theorem g_wq {r : Option T} {Q : T → Prop} (h : Wq r Q) : Wq r Q := h
theorem g_wqo {op : Op} {ts : List T} {Q : T → Prop} (h : Wq (op ts) Q) : Wq (op ts) Q := h
theorem g_wt {r : Option Bool} {Q : Bool → Prop} (h : Wt r Q) : Wt r Q := h
end NQ
/-! A text with a token: e.replace(" ", x), where the local x was drawn from a written list. -/
namespace NL
open PySem PySem.Spec PyProof.Rows L2
/-- the frame's names are as they were -/
def Kn (X : Cx) (s s' : Shared) : Prop := ∀ m, s.heap.Ns X.env.locals m → s'.heap.Ns X.env.locals m
/-- the local x is a text with a token -/
def TokAt (X : Cx) (x : Str) (s : Shared) : Prop := 1 ≤ s.toks ∧ ∃ m y t, s.heap.Ns X.env.locals m ∧ m x = some (.str y t) ∧ t ≠ 0
theorem Kn.refl {X : Cx} {s : Shared} : Kn X s s := fun _ h => h
theorem Kn.tr {X : Cx} {s0 s1 s2 : Shared} (h1 : Kn X s0 s1) (h2 : Kn X s1 s2) : Kn X s0 s2 := fun m h => h2 m (h1 m h)
theorem Kn.keep {X : Cx} {s s' : Shared} (k : ∀ b u, s.heap.get? b = some u → s'.heap.get? b = some u) : Kn X s s' := fun m h => by
  obtain ⟨o, es, ep, ho, r⟩ := h
  exact ⟨o, es, ep, k _ _ ho, r⟩
/-! ### expressions that keep the frame's names -/
def PEK (X : Cx) (e : Expr) (te : TE) : Prop := ∀ (pins : List (Addr × Obj)) (s : Shared) (σ : L2.St) (H : Hp) (Q : VK), Inv X pins σ H s → te σ H Q → wpAny (model X.prog X.w) X.A (eval e X.env) (fun u s' => EP X pins σ Q u s' ∧ Kn X s s') X.xe s
def PAK (X : Cx) (es : List Expr) (t : TA) : Prop :=
  ∀ (pos : Pos) (pins : List (Addr × Obj)) (s : Shared) (σ : L2.St) (H : Hp) (Q : List V → Hp → Prop), Inv X pins σ H s → t σ H Q → wpAny (model X.prog X.w) X.A (spliced (backTo pos (starEach es X.env))) (fun us s' => AP X pins σ Q us s' ∧ Kn X s s') X.xe s
def PSsR (X : Cx) (ρ : Shared → Prop) (rest : List Stmt) (t : TS) : Prop := ∀ (pins : List (Addr × Obj)) (s : Shared) (σ : L2.St) (H : Hp) (D : Ends), Inv X pins σ H s → ρ s → t D σ H → wpAny (model X.prog X.w) X.A (execs rest X.env) (SP X pins D) X.xe s
def PER (X : Cx) (ρ : Shared → Prop) (e : Expr) (te : TE) : Prop := ∀ (pins : List (Addr × Obj)) (s : Shared) (σ : L2.St) (H : Hp) (Q : VK), Inv X pins σ H s → ρ s → te σ H Q → wpAny (model X.prog X.w) X.A (eval e X.env) (EP X pins σ Q) X.xe s
def PAR (X : Cx) (ρ : Shared → Prop) (es : List Expr) (t : TA) : Prop :=
  ∀ (pos : Pos) (pins : List (Addr × Obj)) (s : Shared) (σ : L2.St) (H : Hp) (Q : List V → Hp → Prop), Inv X pins σ H s → ρ s → t σ H Q → wpAny (model X.prog X.w) X.A (spliced (backTo pos (starEach es X.env))) (AP X pins σ Q) X.xe s
section
variable {X : Cx}
theorem pek_name {i : Nat} {x : Str} {pos : Pos} (hN : X.N[i]? = some x := by rfl) (hv : Vis X.env.scope x := by first | exact .inl rfl | exact .inr (.inl rfl) | exact .inr (.inr rfl))
    (hd : (x == ("__debug__" : Str)) = false := by decide) (hcd : (x == ("__classdict__" : Str)) = false := by decide) : PEK X (.Name x pos) (tVar i) := fun pins s σ H Q I h => by
  obtain ⟨v, h1, h2⟩ := h
  exact raw_name hN hv I h1 (fun u r => ⟨⟨v, H, I, r, h2⟩, .refl⟩) hd hcd
theorem pak_nil : PAK X [] tNil := fun _ _ _ _ H Q I h => Calls.spliced_nil ⟨⟨[], H, I, .nil, h⟩, .refl⟩
theorem pak_cons {e : Expr} {es : List Expr} {te : TE} {ta : TA} (ha : PEK X e te) (hr : PAK X es ta) (hs : starEach (e :: es) X.env = (false, eval e X.env) :: starEach es X.env := by rfl) : PAK X (e :: es) (tCons te ta) := fun pos pins s σ H Q I h => by
  rw [hs]
  refine Calls.spliced_cons (thn (ha pins s σ H _ I h) fun v s1 q => ?_)
  obtain ⟨⟨x, H1, I1, r1, q1⟩, k1⟩ := q
  refine thn (hr pos pins s1 σ H1 _ I1 q1) fun us s2 q2 => ?_
  obtain ⟨⟨xs, H2, I2, r2, q2⟩, k2⟩ := q2
  exact ⟨⟨x :: xs, H2, I2, .cons r1 r2, q2⟩, k1.tr k2⟩
theorem pek_lst {es : List Expr} {ta : TA} {pos : Pos} (h : PAK X es ta) : PEK X (.List es pos) (tLst ta) := fun pins s σ H Q I hq => by
  refine wpAny_List_spliced (thn (h pos pins s σ H _ I hq) fun us s1 z => ?_)
  obtain ⟨⟨xs, H1, I1, r, z, q⟩, k1⟩ := z
  refine ⟨by rw [← r.length]; exact z, ?_⟩
  have hf : H1 s1.heap.objs.size = none := I1.hok.fresh (Nat.le_refl _)
  have k2 : ∀ b u, s1.heap.get? b = some u → (s1.heap.push { cls := .type "list", data := .seq us.toArray 0 }).get? b = some u := fun b u e => Heap.get?_push_of_some _ e
  refine ⟨⟨.ref s1.heap.objs.size, upd H1 s1.heap.objs.size (.lst xs), I1.laid (t' := s1.toks) k2 (Nat.le_refl _) ?_, rfl, q _ hf⟩, k1.tr (.keep k2)⟩
  exact ⟨z, us, 0, r, Heap.get?_push_size _ rfl⟩
/-- a local is stored: the frame's names behind it -/
theorem store_map {M : Model} {A : Around} {E : Value → Shared → Prop} {pins : List (Addr × Obj)} {σ : L2.St} {H : Hp} {s : Shared} {i : Nat} {y : Str} {v : V} {u : Value} {Q : Unit → Shared → Prop} (I : Inv X pins σ H s) (hN : X.N.Nodup) (hi : X.N[i]? = some y)
    (hk : X.env.scope.names.lookup y = some .local) (r : RelV v u)
    (h : ∀ s', Inv X pins (σ.set i (some v)) H s' → s.toks + 1 ≤ s'.toks → (∀ m, s.heap.Ns X.env.locals m → s'.heap.Ns X.env.locals fun z => if z = y then some u else m z) → Q () s') : wpAny M A (storeName X.env y u) Q E s := by
  obtain ⟨m0, hn, hl⟩ := id I.loc
  have hc : (X.env.scope.kind == .class || (X.env.scope.kind == .module && X.env.locals != X.env.globals)) = false := by rw [I.ok.kind]; rfl
  refine wpAny_storeName_local hk hn (fun h' hn' hs => ?_) hc
  have kp : ∀ b u, b ≠ X.env.locals → s.heap.get? b = some u → h'.get? b = some u := fun b u n e => (hs.2 b n).trans e
  have low : ∀ b u, X.s_0.heap.get? b = some u → b ≠ X.env.locals := fun b u e z => by
    have h1 := Heap.lt_size e
    rw [z] at h1
    exact absurd (Nat.lt_of_lt_of_le h1 I.ok.above) (Nat.lt_irrefl _)
  have tr : ∀ b u, H b = some u → b ≠ X.env.locals := fun b u e z => by rw [z, I.free] at e; cases e
  have li : i < σ.length := by rw [I.len]; exact (List.getElem?_eq_some_iff.mp hi).1
  refine h { s with heap := h', toks := s.toks + 1 } ?_ (Nat.le_refl _) fun m hm => ?_
  · exact {
      ok := I.ok
      os := I.os
      bare := I.bare
      base := {
        keep := fun b u e a1 a2 a3 => kp b u (low b u e) (I.base.keep b u e a1 a2 a3)
        slot := fun b u e a1 a2 a3 => (I.base.slot b u e a1 a2 a3).imp fun sl q => kp b _ (low b u e) q
        free := I.base.free
        there := fun b u e a1 => (I.base.there b u e a1).imp fun u' q => kp b u' (low b u e) q
        tups := I.base.tups
        frzs := I.base.frzs
        tbls := I.base.tbls }
      loc := ⟨_, hn', fun j z w e1 e2 e3 => by
        by_cases hj : i = j
        · subst hj
          rw [List.getElem?_set_self li] at e2
          cases e2
          rw [hi] at e1
          cases e1
          exact ⟨u, r, .inl ⟨hk, if_pos rfl⟩⟩
        · rw [List.getElem?_set_ne hj] at e2
          obtain ⟨w', r', q⟩ := hl j z w e1 e2 e3
          refine ⟨w', r', q.imp (fun q => ⟨q.1, ?_⟩) fun q => ⟨q.1, q.2.imp fun c q => ⟨q.1, q.2.sameBut hs (I.cne z c q.1)⟩⟩⟩
          have zy : z ≠ y := fun e => hj (nodup_ix hN hi (e ▸ e1))
          show (if z = y then _ else _) = _
          rw [if_neg zy]
          exact q.2⟩
      cell := fun z c e => (I.cell z c e).imp fun w q => q.sameBut hs (I.cne z c e)
      free := I.free
      freeC := I.freeC
      pin := fun p hp => by
        obtain ⟨a1, a2, a3, a4⟩ := I.pin p hp
        exact ⟨kp _ _ a3 a1, a2, a3, a4⟩
      hok := fun b u e => (I.hok b u e).stay (fun c w hw q => kp c w (by
        rcases hw with rfl | hw
        · exact tr _ _ e
        · exact tr _ _ hw) q) (fun _ q => q) fun _ _ q => q
      len := by rw [List.length_set]; exact I.len }
  · rw [hm.eq_nsMap, ← hn.eq_nsMap]
    exact hn'
theorem psr_keep {i : Nat} {x y : Str} {e : Expr} {te : TE} {rest : List Stmt} {u : TS} {p' pos : Pos} (he : PEK X e te) (nd : X.N.Nodup) (h2 : PSsR X (TokAt X x) rest u) (hi : X.N[i]? = some y := by rfl) (hk : X.env.scope.names.lookup y = some .local := by rfl) (hxy : x ≠ y := by decide)
    (hs : swapsWith e (some (.Name y p')) pos.line X.env = pure false := by rfl) : PSsR X (TokAt X x) (.Assign [.Name y p'] e pos :: rest) (tSeq (tAsg te (gName i)) u) := fun pins s σ H D I ρ h => by
  refine wpAny_execs_cons (wpAny_Assign_Name (wpAny_mono (PySem.wpAny_toks (he pins s σ H _ I h)) (fun v s1 q => ?_) fun _ _ z => z.2) hs)
  obtain ⟨ht, ⟨w, H1, I1, r1, q1⟩, k1⟩ := q
  obtain ⟨o1, m, z, t, o2, o3, o4⟩ := ρ
  refine store_map I1 nd hi hk r1 fun s2 I2 t2 hm => ?_
  exact h2 pins s2 _ H1 D I2 ⟨Nat.le_trans o1 (Nat.le_trans ht (Nat.le_of_succ_le t2)), _, z, t, hm m (k1 m o2), by rw [if_neg hxy]; exact o3, o4⟩ q1
theorem psr_use {ρ : Shared → Prop} {i : Nat} {y : Str} {e : Expr} {te : TE} {rest : List Stmt} {u : TS} {p' pos : Pos} (he : PER X ρ e te) (nd : X.N.Nodup) (h2 : PSs X rest u) (hi : X.N[i]? = some y := by rfl) (hk : X.env.scope.names.lookup y = some .local := by rfl)
    (hs : swapsWith e (some (.Name y p')) pos.line X.env = pure false := by rfl) : PSsR X ρ (.Assign [.Name y p'] e pos :: rest) (tSeq (tAsg te (gName i)) u) := fun pins s σ H D I ρ h => by
  refine wpAny_execs_cons (wpAny_Assign_Name (thn (he pins s σ H _ I ρ h) fun v s1 q => ?_) hs)
  obtain ⟨w, H1, I1, r1, q1⟩ := q
  exact store_map I1 nd hi hk r1 fun s2 I2 _ _ => h2.run pins s2 _ H1 D I2 q1
/-- behind a store a token is out -/
theorem pss_tok {i : Nat} {y : Str} {e : Expr} {te : TE} {rest : List Stmt} {u : TS} {p' pos : Pos} (he : PE X e te) (nd : X.N.Nodup) (h2 : PSsR X (fun s => 1 ≤ s.toks) rest u) (hi : X.N[i]? = some y := by rfl) (hk : X.env.scope.names.lookup y = some .local := by rfl)
    (hs : swapsWith e (some (.Name y p')) pos.line X.env = pure false := by rfl) : PSs X (.Assign [.Name y p'] e pos :: rest) (tSeq (tAsg te (gName i)) u) := ⟨fun pins s σ H D I h => by
  refine wpAny_execs_cons (wpAny_Assign_Name (thn (he.run pins s σ H _ I h) fun v s1 q => ?_) hs)
  obtain ⟨w, H1, I1, r1, q1⟩ := q
  exact store_map I1 nd hi hk r1 fun s2 I2 t2 _ => h2 pins s2 _ H1 D I2 (Nat.le_trans (Nat.le_add_left 1 _) t2) q1⟩
/-! ### arguments -/
theorem par_here {ρ : Shared → Prop} {e : Expr} {es : List Expr} {te : TE} {ta : TA} (ha : PER X ρ e te) (hr : PA X es ta) (hs : starEach (e :: es) X.env = (false, eval e X.env) :: starEach es X.env := by rfl) : PAR X ρ (e :: es) (tCons te ta) := fun pos pins s σ H Q I p h => by
  rw [hs]
  refine Calls.spliced_cons (thn (ha pins s σ H _ I p h) fun v s1 q => ?_)
  obtain ⟨x, H1, I1, r1, q1⟩ := q
  exact thn (hr.run pos pins s1 σ H1 _ I1 q1) fun us s2 ⟨xs, H2, I2, r2, q2⟩ => ⟨x :: xs, H2, I2, .cons r1 r2, q2⟩
/-! ### the replacing itself -/
theorem repl_same {P : Program} {w : World} {A : Around} {E : Value → Shared → Prop} {s : Shared} {x y z : Str} {t u : Tok} {Q : Value → Shared → Prop} (hu : u ≠ 0) (hq : Q (.str x t) s) :
    wpAny (model P w) A (call (.builtin "str.replace") [.str x t, .str y u, .str z u]) Q E s := by
  have e : isSame (.str y u) (.str z u) = pure true := by
    show (if (u == 0 || u == 0) = true then _ else if (u == u) = true then pure true else _ : Sem Bool) = _
    rw [show (u == 0) = false from by simp [hu], show (u == u) = true from by simp]
    rfl
  refine call_givesAt F.slot_str_replace (typeIs_str _ _ _) F.entry_str_replace (F.args_str_replace_3 _ _ _) (m := .val (.str x t)) (P := fun _ => True) ?_ trivial hq
  show GivesAt _ (if ((Builtin.Str.occurrences x y 0 x.length (x.length + 1)).isEmpty || (y.length == 0 && z.length == 0)) = true then (do rule "str.replace.nothing"; ret (.str x t)) else
          (do let same ← isSame (.str y u) (.str z u)
              if same = true then (do rule "str.replace.old-is-new"; ret (.str x t)) else
              if Builtin.Str.tooLong (x.length + (Builtin.Str.occurrences x y 0 x.length (x.length + 1)).length * z.length) = true then unsupported "str.replace:memory" else
              retStr (Builtin.Str.glued z (Builtin.Str.partsBetween x (Builtin.Str.occurrences x y 0 x.length (x.length + 1)) y.length)))) _
  rw [e]
  split
  · exact Gives.at (.rule (.of_eq rfl))
  · exact Gives.at (.rule (.of_eq rfl))
/-- list(e) of a list -/
theorem pek_list0 {e : Expr} {te : TE} {p pos : Pos} (ha : PEK X e te) (hg : Gl X "list") (hm : X.mg "list" = none) (he : starEach [e] X.env = (false, eval e X.env) :: starEach [] X.env := by rfl) (hpl : (backTo pos (starEach [] X.env)).any (·.1) = false := by rfl) :
    PEK X (.Call (.Name "list" p) [e] [] pos) (tCB (dList X.K) (tCons te tNil)) := fun pins s σ H Q I h => by
  refine wpAny_Call_Name_kw (ld_blt I hg hm rfl ?_ (by decide) (by decide))
  refine PyProof.Rows.callWith_type1 (thn (pak_cons ha pak_nil he pos pins s σ H _ I h) fun us s1 q => ?_) he hpl
  obtain ⟨⟨vs, H1, I1, r, h1⟩, k1⟩ := q
  match vs, h1 with
  | [.ref a], h1 =>
    obtain ⟨ys, hq, q⟩ := h1
    obtain ⟨u, rfl, rx⟩ := vals1 r
    cases rx
    have fin : ∀ (its : List Value), Vals ys its → ys.length ≤ sizeLine → ∀ (h' : Heap) (c' : Nat), (∀ b o', s1.heap.get? b = some o' → h'.get? b = some o') →
        h'.get? s1.heap.objs.size = some { cls := .type "list", dict := none, data := .seq its.toArray c', slots := #[] } → EP X pins σ Q (.ref s1.heap.objs.size) { s1 with heap := h' } ∧ Kn X s { s1 with heap := h' } := fun its r' hz h' c' kp e =>
      ⟨⟨.ref s1.heap.objs.size, _, I1.laid (o := .lst ys) (t' := s1.toks) kp (Nat.le_refl _) ⟨hz, its, c', r', e⟩, rfl, q _ (I1.hok.fresh (Nat.le_refl _))⟩, k1.tr (.keep kp)⟩
    rcases hq with hq | hq
    · obtain ⟨its, r', pl, hz⟩ := I1.list hq
      have hlen := r'.length
      obtain ⟨o, ho, hc, n, hd⟩ := pl.isList
      exact call_list_seq a (.inl rfl) ho hc hd (fun h' c' kp e => fin its r' hz h' c' kp e) (by simp only [List.size_toArray] <;> omega)
    · obtain ⟨its, r', pl, hz⟩ := I1.tuple hq
      have hlen := r'.length
      obtain ⟨o, ho, hc, n, hd⟩ := pl
      exact call_list_seq a (.inr rfl) ho hc hd (fun h' c' kp e => fin its r' hz h' c' kp e) (by simp only [List.size_toArray] <;> omega)
theorem pek_list (K : PySem.W.Frag) {e : Expr} {te : TE} {p pos : Pos} (ha : PEK X e te) (hg : Gl X "list") (hm : X.mg "list" = none) (h : X.K = K := by rfl) (he : starEach [e] X.env = (false, eval e X.env) :: starEach [] X.env := by rfl) (hpl : (backTo pos (starEach [] X.env)).any (·.1) = false := by rfl) :
    PEK X (.Call (.Name "list" p) [e] [] pos) (tCB (dList K) (tCons te tNil)) := h ▸ pek_list0 ha hg hm he hpl
/-- C(..) of an own class, what is known beside told to the arguments -/
theorem per_make {W : WX} {ρ : Shared → Prop} {k : Nat} {x : Str} {C : Addr} {ps : List Str} {sp : Sp} {e : Expr} {es : List Expr} {t : TA} {p pos : Pos} (M : MkC X.prog X.w X.K X.mg X.base k x C ps sp) (tk : Takes X W) (hr : Room (k + 1) X.A) (ha : PAR X ρ (e :: es) t) (hg : Gl X x := by rfl) (hdb : (x == ("__debug__" : Str)) = false := by decide)
    (he : starEach (e :: es) X.env = (false, eval e X.env) :: starEach es X.env := by rfl) (hpl : (backTo pos (starEach es X.env)).any (·.1) = false := by rfl) :
    PER X ρ (.Call (.Name x p) (e :: es) [] pos) (tMakeS C sp (WE W) t) := fun pins s σ H Q I g h => by
  obtain ⟨f, fd, M1, hb, F⟩ := M.fn
  refine wpAny_Call_Name_kw (ld_glob I hg M.g ?_ hdb)
  refine PySem.W.callWith_K (h₀ := X.base) I.ok.mod.kin M1.kp (thn (ha pos pins s σ H _ I g h) fun us s1 q => ?_) he hpl
  obtain ⟨vs, H1, I1, r, q⟩ := q
  exact ⟨I1.kIn, run_makeS M1 F hr hb tk I1 r q⟩
/-- no token is booked -/
def nobB (K : PySem.W.Frag) : Bool := match K.lookup cStatics with
  | some o => (match o.data with
    | .dict es _ => es.toList.all (fun e => match e.key with | .str _ _ => true | _ => false) && (nsFind es sharingNotToldKey).isNone
    | _ => false)
  | none => false
theorem nob_of {K : PySem.W.Frag} {h : Heap} (e : nobB K = true) (k : K.In h) : NoneBooked h := by
  unfold nobB at e
  split at e
  · rename_i o ho
    split at e
    · rename_i es ep hd
      rw [Bool.and_eq_true] at e
      refine ⟨fun z => nsFind es z, ⟨o, es, ep, k _ _ ho, hd, fun d hm => ?_, fun _ => rfl⟩, Option.isNone_iff_eq_none.mp e.2⟩
      have := List.all_eq_true.mp e.1 d (Array.mem_toList_iff.mpr hm)
      cases q : d.key <;> rw [q] at this <;> first | exact ⟨_, _, rfl⟩ | cases this
    · cases e
  · cases e
/-- text.replace(" ", blanks) -/
def tRepl (y : Str) (i j : Nat) : TE := fun σ H Q => ∃ a b, σ[i]? = some (some (.str a)) ∧ σ[j]? = some (some (.str b)) ∧ a.length + (a.length + 1) * b.length ≤ 16777216 ∧ ∀ c, c = a ∨ c = Txt.replace a y b → Q (.str c) H
theorem per_repl {i j : Nat} {xi xj y : Str} {n : Nat} {p1 p2 c0 apos pos : Pos} (hB : nobB X.K = true) (hNi : X.N[i]? = some xi := by rfl) (hNj : X.N[j]? = some xj := by rfl) (hvi : Vis X.env.scope xi := by first | exact .inl rfl | exact .inr (.inl rfl)) (hkj : X.env.scope.names.lookup xj = some .local := by rfl)
    (hdi : (xi == ("__debug__" : Str)) = false := by decide) (hci : (xi == ("__classdict__" : Str)) = false := by decide) (hdj : (xj == ("__debug__" : Str)) = false := by decide)
    (hst : starEach [.Constant (.str y) n c0, .Name xj p2] X.env = [(false, eval (.Constant (.str y) n c0) X.env), (false, eval (.Name xj p2) X.env)] := by rfl)
    (hbase : attributeBase (.Name xi p1) "replace" X.env (eval (.Name xi p1) X.env) = eval (.Name xi p1) X.env := by rfl) (hline : (apos.endLine == pos.line) = true := by rfl) :
    PER X (TokAt X xj) (.Call (.Attribute (.Name xi p1) "replace" apos) [.Constant (.str y) n c0, .Name xj p2] [] pos) (tRepl y i j) := fun pins s σ H Q I ρ h => by
  obtain ⟨a, b, hi, hj, hz, qq⟩ := h
  have q1 := qq a (.inl rfl)
  have q2 := qq _ (.inr rfl)
  obtain ⟨o1, m, z, t, o2, o3, o4⟩ := ρ
  refine PySem.Call_method2 hbase hst hline (raw_name hNi hvi I hi (fun v r => ?_) hdi hci)
  obtain ⟨tx, rfl⟩ := r
  refine ⟨"str", _, F.plainAttrs_str, F.slot_str_replace, F.type_str_replace, typeIs_str _ _ _, (fun _ e => nomatch e), Calls.callWith_builtin rfl (Calls.evalArgs_plain (Calls.spliced_cons ?_))⟩
  refine Calls.Constant_str (Calls.spliced_cons ?_)
  have I2 : Inv X pins σ H { s with toks := s.toks + 1 } := I.tok _
  obtain ⟨m0, hn, hl⟩ := I.loc
  obtain ⟨u, r, l⟩ := hl j xj _ hNj hj (.inl hkj)
  obtain ⟨tb, er⟩ := r
  subst er
  have hmx : m xj = some (.str b tb) := by
    rcases l with l | l
    · rw [o2.eq_nsMap, ← hn.eq_nsMap]; exact l.2
    · have := l.1
      have hk2 : X.env.kindOf xj = some .local := hkj
      rw [hk2] at this
      rcases this with h | h <;> cases h
  rw [hmx] at o3
  have o3 := Option.some.inj o3
  injection o3 with o5 o6
  rw [← o6] at o4
  refine wpAny_Name (wpAny_loadName_local I.ok.kind hkj (show ({ s with toks := s.toks + 1 } : Shared).heap.Ns X.env.locals m from o2) hmx ?_) hdj
  refine Calls.spliced_nil ?_
  by_cases hu : s.toks = tb
  · subst hu
    exact repl_same o4 ⟨.str a, H, I2, ⟨tx, rfl⟩, q1⟩
  · exact SC.replaceA (show s.toks ≠ 0 by omega) o4 hu hz (fun t' k => ⟨.str (Txt.replace a y b), H, I.tok k, ⟨t', rfl⟩, q2⟩) (nob_of hB I.kIn)
end
/-! ### one of some written texts -/
def TkV (u : Value) : Prop := ∃ y t, u = .str y t ∧ t ≠ 0
/-- what a drawing def gives back, told of the value itself -/
def OfRun (P : Program) (w : World) (K : PySem.W.Frag) (mg : Str → Option Value) (base : Heap) (k : Nat) (f : Addr) : Prop :=
  ∀ (A : Around) (outer : List Env) (s : Shared) (H : Hp) (b a : Addr) (o : Obj) (us : List Value) (xs : List V) (Q : VK) (E : XK), Room k A → Env0 P w K mg base A outer s H → Bag H b → H a = some (.frz o (.lst xs)) → o.cls = .type "list" → o.data = .seq us.toArray 0 → Vals xs us → a ≠ b → 0 < xs.length → xs.length < 1000 →
    (∀ v H', v ∈ xs → Sx [b] H H' → Bag H' b → Q v H') →
    codeAny (model P w) A (.call (.ref f) ⟨[.ref b, .ref a], []⟩) (fun r s' => match r with | .ok (.ret u) => u ∈ us ∧ CE outer P w H s Q u s' | .ok _ => False | .error e => L2.CX P w outer H s E e s') s
theorem of_run {P : Program} {w : World} {K : PySem.W.Frag} {mg : Str → Option Value} {base : Heap} {k : Nat} {f : Addr} {fd : FuncData} {x qual : Str} {params : Arguments} {body : List Stmt} {scope : Scope} {a0 a1 : Str} {e2 : Expr} {p1 p2 p3 : Pos}
    (F : FunD K x qual params body scope [] [] f fd) (S : FnScope [a0, a1] [a0, a1] scope) (hbd : body = [.Return (some (.Subscript (.Name a1 p1) e2 p2)) p3]) (hb : Binds K fd [a0, a1] []) (hpl : PlainIx e2) (hk1 : scope.names.lookup a1 = some .local) (hd1 : (a1 == ("__debug__" : Str)) = false) (hc1 : (a1 == ("__classdict__" : Str)) = false)
    (hx : ∀ (cdv : Value) (A : Around) (outer : List Env) (s : Shared) (H : Hp) (E : XK) (b a : Addr) (o : Obj) (xs : List V) (Q : VK), Room k (A.deeper (envOfC qual scope s.heap.objs.size f cdv)) → Bag H b → H a = some (.frz o (.lst xs)) → a ≠ b → 0 < xs.length → xs.length < 1000 → (∀ (d : Int) H', 0 ≤ d → d < xs.length → Sx [b] H H' → Bag H' b → Q (.int d) H') →
      ∃ tb, PE (cxOf (L2.CX P w) P w K mg base [a0, a1] qual scope f cdv A outer s H E) e2 tb ∧ tb (start [a0, a1] [.ref b, .ref a]) H Q) : OfRun P w K mg base (k + 1) f := by
  intro A outer s H b a o us xs Q E hr e0 hB ha hcl hdt rv hne h0 h1 kk
  obtain ⟨oc, od, dV, kV, doc, pm, an, cdv, ct, osl, rfl, lk, hcd, _, _⟩ := F.ex
  subst hbd
  have KX : K.In s.heap := e0.mod.kin.keeps fun b o e => (e0.bs b o e).1
  have lim : s.heap.NoLimit := e0.mod.nolimit.keeps fun b o e => (e0.bs b o e).1
  have r : Vals [V.ref b, .ref a] [Value.ref b, .ref a] := .cons rfl (.cons rfl .nil)
  have hkind : ∀ y ∈ [a0, a1].zip [Value.ref b, .ref a], scope.names.lookup y.1 = some .local ∨ (scope.names.lookup y.1 = some .cell ∧ ((cellsFrom (s.heap.objs.size + 1) scope.names []).lookup y.1).isSome = true) := fun ⟨n, v⟩ hy =>
    (S.par n (List.of_mem_zip hy).1).imp id fun q => ⟨q, PySem.W.cellsFrom_some _ _ _ (.inl q)⟩
  have hb2 := hb s [.ref b, .ref a] KX rfl
  refine codeAny_call_function hr.depth (KX _ _ lk) rfl S.co S.gen rfl (PySem.W.codeRec_of KX hcd) (hb2 _ _ _ _ ?_)
  refine wpAny_newFunctionEnv_cells S.kind hkind fun env he s1 z => ?_
  subst he
  refine ⟨lim.keeps z.toInCall.keep, codeAny_func ?_⟩
  have I : Inv (cxOf (L2.CX P w) P w K mg base [a0, a1] qual scope f cdv A outer s H E) [] (start [a0, a1] [.ref b, .ref a]) H s1 := inv_start S hr.hd e0 rfl r z
  obtain ⟨tb, ht, hq⟩ := hx cdv A outer s H E b a o xs (fun v H' => ∃ d : Int, v = .int d ∧ 0 ≤ d ∧ d < xs.length ∧ Sx [b] H H' ∧ Bag H' b) (hr.deeper _) hB ha hne h0 h1 fun d H' d0 d1 s1 b1 => ⟨d, rfl, d0, d1, s1, b1⟩
  refine wpAny_execs_cons (wpAny_Return_some (Subscript_ (raw_name (i := 1) (X := cxOf (L2.CX P w) P w K mg base [a0, a1] qual scope f cdv A outer s H E) rfl (.inl hk1) I rfl (fun v rv1 => ?_) hd1 hc1)))
  have ev : v = Value.ref a := rv1
  subst ev
  refine wpAny_mono (ht.run [] s1 _ H _ I hq) (fun u s2 h2 => ?_) fun e s' hs => hs
  obtain ⟨v, H2, I2, ri, d, rfl, d0, d1, sx, b2⟩ := h2
  obtain ⟨ti, rfl⟩ := ri
  have ha2 : H2 a = some (.frz o (.lst xs)) := sx.get1 hne ha
  have hobj : s2.heap.get? a = some o := (I2.hok a _ ha2).1
  have hl : s2.heap.IsList a us.toArray := ⟨o, hobj, hcl, 0, hdt⟩
  have hlen := rv.length
  have hd : d.toNat < us.length := by omega
  obtain ⟨y, hy1, hy2⟩ : ∃ y, xs[d.toNat]? = some y ∧ RelV y us[d.toNat] := by
    have hd' : d.toNat < xs.length := by omega
    obtain ⟨u, e1, e2⟩ := rv.get (List.getElem?_eq_getElem hd')
    rw [List.getElem?_eq_getElem hd] at e1
    exact ⟨_, List.getElem?_eq_getElem hd', by rw [Option.some.inj e1]; exact e2⟩
  refine item_listR (x := us[d.toNat]) hl d0 (by omega) (by simp [List.getElem?_eq_getElem hd]) ?_ (hpl _ _)
  exact ⟨List.getElem_mem _, y, H2, I2.os, I2.bare, I2.base, I2.hok, hy2, kk y H2 (List.mem_of_getElem? hy1) sx b2⟩
section
variable {X : Cx}
/-- written texts as arguments: each has a token -/
def PAC (X : Cx) (es : List Expr) (cs : List Str) : Prop :=
  ∀ (pos : Pos) (s : Shared) (Q : List Value → Shared → Prop) (E : Value → Shared → Prop), 1 ≤ s.toks → (∀ us tk, s.toks ≤ tk → Vals (cs.map V.str) us → (∀ u ∈ us, TkV u) → Q us { s with toks := tk }) → wpAny (model X.prog X.w) X.A (spliced (backTo pos (starEach es X.env))) Q E s
theorem pac_nil : PAC X [] [] := fun _ s _ _ _ h => Calls.spliced_nil (h [] s.toks (Nat.le_refl _) .nil fun _ z => nomatch z)
theorem pac_cons {c : Str} {j : Nat} {p : Pos} {es : List Expr} {cs : List Str} (hr : PAC X es cs) (hs : starEach (.Constant (.str c) j p :: es) X.env = (false, eval (.Constant (.str c) j p) X.env) :: starEach es X.env := by rfl) : PAC X (.Constant (.str c) j p :: es) (c :: cs) := fun pos s Q E h1 h => by
  rw [hs]
  show wpAny _ _ (spliced ((false, eval (.Constant (.str c) j p) X.env) :: backTo pos (starEach es X.env))) _ _ s
  refine Calls.spliced_cons (Calls.Constant_str (hr pos { s with toks := s.toks + 1 } _ _ (Nat.le_succ_of_le h1) fun us tk ht rv hu => ?_))
  refine h (.str c s.toks :: us) tk (Nat.le_of_succ_le ht) (.cons ⟨_, rfl⟩ rv) fun u hm => ?_
  rcases List.mem_cons.mp hm with rfl | hm
  · exact ⟨c, s.toks, rfl, Nat.ne_of_gt h1⟩
  · exact hu u hm
/-- x = f(bag, [written texts]) -/
def tOfC (ib i : Nat) (cs : List Str) (u : TS) : TS := fun D σ H => ∃ b, σ[ib]? = some (some (.ref b)) ∧ Bag H b ∧ ∀ c H', c ∈ cs → Ed [b] H H' → Bag H' b → u D (σ.set i (some (.str c))) H'
theorem psr_of {k ib i : Nat} {f : Addr} {W : WX} {fx nb x : Str} {es : List Expr} {cs : List Str} {rest : List Stmt} {u : TS} {pf pb pl p' pos cpos : Pos} (R : OfRun X.prog X.w X.K X.mg X.base k f) (hm : X.mg fx = some (.ref f)) (hk : PySem.W.keepIn X.K (.ref f) = true) (tk : Takes X W) (hr : Room k X.A) (nd : X.N.Nodup)
    (hc : PAC X es cs) (h2 : PSsR X (TokAt X x) rest u) (hlen : 0 < cs.length ∧ cs.length < 1000 := by decide) (hg : Gl X fx := by rfl) (hNb : X.N[ib]? = some nb := by rfl) (hi : X.N[i]? = some x := by rfl) (hkx : X.env.scope.names.lookup x = some .local := by rfl) (hvb : Vis X.env.scope nb := by first | exact .inl rfl | exact .inr (.inl rfl))
    (hdb : (fx == ("__debug__" : Str)) = false := by decide) (hd1 : (nb == ("__debug__" : Str)) = false := by decide) (hc1 : (nb == ("__classdict__" : Str)) = false := by decide)
    (he : starEach [.Name nb pb, .List es pl] X.env = (false, eval (.Name nb pb) X.env) :: starEach [.List es pl] X.env := by rfl) (he2 : starEach [.List es pl] X.env = (false, eval (.List es pl) X.env) :: starEach [] X.env := by rfl) (hpl : (backTo cpos (starEach [.List es pl] X.env)).any (·.1) = false := by rfl)
    (hs : swapsWith (.Call (.Name fx pf) [.Name nb pb, .List es pl] [] cpos) (some (.Name x p')) pos.line X.env = pure false := by rfl) :
    PSsR X (fun s => 1 ≤ s.toks) (.Assign [.Name x p'] (.Call (.Name fx pf) [.Name nb pb, .List es pl] [] cpos) pos :: rest) (tOfC ib i cs u) := fun pins s σ H D I ρ h => by
  obtain ⟨b, hb, hB, kk⟩ := h
  have key : wpAny (model X.prog X.w) X.A (eval (.Call (.Name fx pf) [.Name nb pb, .List es pl] [] cpos) X.env) (fun v s' => ∃ H3 c, Inv X pins σ H3 s' ∧ RelV (.str c) v ∧ TkV v ∧ c ∈ cs ∧ Ed [b] H H3 ∧ Bag H3 b) X.xe s := by
    refine wpAny_Call_Name_kw (ld_glob I hg hm ?_ hdb)
    refine PySem.W.callWith_K (h₀ := X.base) I.ok.mod.kin hk ?_ he hpl
    rw [he]
    refine Calls.spliced_cons (raw_name hNb hvb I hb (fun v rv => ?_) hd1 hc1)
    have ev : v = Value.ref b := rv
    subst ev
    show wpAny _ _ (spliced (backTo cpos (starEach [.List es pl] X.env))) _ _ _
    rw [he2]
    refine Calls.spliced_cons (wpAny_List_spliced (hc pl s _ _ ρ fun us t1 ht rv hu => ?_))
    have hz : us.length ≤ sizeLine := by
      have h0 : us.length = cs.length := by rw [← rv.length, List.length_map]
      have h1 := sizeLine_eq
      omega
    refine ⟨hz, ?_⟩
    refine Calls.spliced_nil ?_
    have kp : ∀ d u, s.heap.get? d = some u → (s.heap.push { cls := .type "list", data := .seq us.toArray 0 }).get? d = some u := fun d u e => Heap.get?_push_of_some _ e
    have hf : H s.heap.objs.size = none := I.hok.fresh (Nat.le_refl _)
    have I2 : Inv X pins σ (upd H s.heap.objs.size (.frz { cls := .type "list", data := .seq us.toArray 0 } (.lst (cs.map V.str)))) { s with heap := s.heap.push { cls := .type "list", data := .seq us.toArray 0 }, toks := t1 } :=
      I.laid (t' := t1) kp (Nat.le_refl _) ⟨Heap.get?_push_size _ rfl, by rw [rv.length]; exact hz, us, 0, rv, Heap.get?_push_size _ rfl⟩
    have hne : s.heap.objs.size ≠ b := fun z => by
      rw [← z] at hB
      obtain ⟨_, _, e⟩ := hB
      rw [hf] at e
      cases e
    have eN : Ed [b] H (upd H s.heap.objs.size (.frz { cls := .type "list", data := .seq us.toArray 0 } (.lst (cs.map V.str)))) := ⟨fun a o _ e => by rw [upd_ne (ne_of_none e hf)]; exact e, fun a z => by
      by_cases q : a = s.heap.objs.size
      · rw [q, upd_same]; exact fun z => nomatch z
      · rw [upd_ne q]; exact z⟩
    refine ⟨I2.kIn, wpAny_call (codeAny_mono (R X.A X.stack _ _ b s.heap.objs.size { cls := .type "list", data := .seq us.toArray 0 } us (cs.map V.str) (fun v H' => ∃ c, v = .str c ∧ c ∈ cs ∧ Ed [b] H H' ∧ Bag H' b) (WE W σ) hr I2.env0 (hB.new hf) upd_same rfl rfl rv hne (by rw [List.length_map]; exact hlen.1) (by rw [List.length_map]; exact hlen.2) fun v H' hv sx b2 => ?_) fun r s' hq => ?_)⟩
    · obtain ⟨c, hc, rfl⟩ := List.mem_map.mp hv
      exact ⟨c, rfl, hc, eN.tr (Ed.sx sx fun a z => by rw [List.mem_singleton.mp z]; exact b2.alive) fun _ z => .inl z, b2⟩
    · cases r with
      | error e => exact passAt tk σ pins _ _ e s' I2 hq
      | ok fl =>
        cases fl with
        | ret v =>
          obtain ⟨hv, hq⟩ := hq
          obtain ⟨w, H3, I3, r3, c, rfl, hc, e3, b3⟩ := I2.after hq
          exact ⟨H3, c, I3, r3, hu v hv, hc, e3, b3⟩
        | next => exact False.elim hq
        | brk => exact False.elim hq
        | cont => exact False.elim hq
  refine wpAny_execs_cons (wpAny_Assign_Name (wpAny_mono (PySem.wpAny_toks key) (fun v s1 q => ?_) fun _ _ z => z.2) hs)
  obtain ⟨ht, H3, c, I3, r3, ⟨y, t, rfl, h0⟩, hc, e3, b3⟩ := q
  refine store_map I3 nd hi hkx r3 fun s4 I4 t4 hm4 => ?_
  obtain ⟨m0, hn0, _⟩ := I3.loc
  exact h2 pins s4 _ H3 D I4 ⟨Nat.le_trans ρ (Nat.le_trans ht (Nat.le_of_succ_le t4)), _, y, t, hm4 m0 hn0, if_pos rfl, h0⟩ (kk c H3 hc e3 b3)
end
/-- a drawing def of the module -/
structure OfC (P : Program) (w : World) (K : PySem.W.Frag) (mg : Str → Option Value) (base : Heap) (k : Nat) (x : Str) : Prop where
  ex : ∃ f, mg x = some (.ref f) ∧ PySem.W.keepIn K (.ref f) = true ∧ OfRun P w K mg base k f
theorem psr_ofC {X : Cx} {k ib i : Nat} {W : WX} {fx nb x : Str} {es : List Expr} {cs : List Str} {rest : List Stmt} {u : TS} {pf pb pl p' pos cpos : Pos} (C : OfC X.prog X.w X.K X.mg X.base k fx) (tk : Takes X W) (hr : Room k X.A) (nd : X.N.Nodup)
    (hc : PAC X es cs) (h2 : PSsR X (TokAt X x) rest u) (hlen : 0 < cs.length ∧ cs.length < 1000 := by decide) (hg : Gl X fx := by rfl) (hNb : X.N[ib]? = some nb := by rfl) (hi : X.N[i]? = some x := by rfl) (hkx : X.env.scope.names.lookup x = some .local := by rfl) (hvb : Vis X.env.scope nb := by first | exact .inl rfl | exact .inr (.inl rfl))
    (hdb : (fx == ("__debug__" : Str)) = false := by decide) (hd1 : (nb == ("__debug__" : Str)) = false := by decide) (hc1 : (nb == ("__classdict__" : Str)) = false := by decide)
    (he : starEach [.Name nb pb, .List es pl] X.env = (false, eval (.Name nb pb) X.env) :: starEach [.List es pl] X.env := by rfl) (he2 : starEach [.List es pl] X.env = (false, eval (.List es pl) X.env) :: starEach [] X.env := by rfl) (hpl : (backTo cpos (starEach [.List es pl] X.env)).any (·.1) = false := by rfl)
    (hs : swapsWith (.Call (.Name fx pf) [.Name nb pb, .List es pl] [] cpos) (some (.Name x p')) pos.line X.env = pure false := by rfl) :
    PSsR X (fun s => 1 ≤ s.toks) (.Assign [.Name x p'] (.Call (.Name fx pf) [.Name nb pb, .List es pl] [] cpos) pos :: rest) (tOfC ib i cs u) := by
  obtain ⟨f, h1, h2', h3⟩ := C.ex
  exact psr_of h3 h1 h2' tk hr nd hc h2 hlen hg hNb hi hkx hvb hdb hd1 hc1 he he2 hpl hs
theorem g_ofC {ib i : Nat} {cs : List Str} {u : TS} {D : Ends} {σ : L2.St} {H : Hp} {b : Addr} (hb : σ[ib]? = some (some (.ref b))) (hB : Bag H b) (k : ∀ c H', c ∈ cs → Ed [b] H H' → Bag H' b → u D (σ.set i (some (.str c))) H') : tOfC ib i cs u D σ H := ⟨b, hb, hB, k⟩
/-! ### str(e), e an object of an own class with __str__ -/
section
variable {X : Cx} {k : Nat} {C : Addr} {a : Expr} {ta : TE} {p pos : Pos} {ps : List Str} {sp : Sp} {W : WX}
theorem run_in2 {f : Addr} {fd : FuncData} {pins : List (Addr × Obj)} {σ : L2.St} {H : Hp} {s : Shared} {Q : VK} {us : List Value} {vs : List V} (F : FnOk X.prog X.w X.K X.mg X.base (L2.CX X.prog X.w) k f fd ps sp) (hr : Room (k + 2) X.A) (hb : Binds X.K fd ps []) (tk : Takes X W) (I : Inv X pins σ H s) (r : Vals vs us)
    (h : sp vs H Q (WE W σ)) : wpAny (model X.prog X.w) X.A.in1.in1 (call (.ref f) us) (EP X pins σ Q) X.xe s := by
  have hl : us.length = ps.length := by rw [← r.length]; exact F.len _ _ _ _ h
  have b2 := hb s us I.kIn (by rw [List.append_nil]; exact hl)
  rw [List.append_nil] at b2
  refine wpAny_call (codeAny_mono (F.run X.A.in1.in1 X.stack s H ⟨us, []⟩ us vs Q (WE W σ) hr.in1.in1 I.env0.in1.in1 b2 r h) fun r s' hq => ?_)
  cases r with
  | error e => exact passAt tk σ pins _ _ e s' I hq
  | ok fl =>
    cases fl with
    | ret u => exact I.after hq
    | next => exact False.elim hq
    | brk => exact False.elim hq
    | cont => exact False.elim hq
def tStrO (C : Addr) (sp : Sp) (E : L2.St → XK) (ta : TE) : TE := fun σ H Q => ta σ H fun x H1 => ∃ c dx fs, x = .ref c ∧ H1 c = some (.ins C dx fs) ∧ sp [.ref c] H1 (fun v H2 => ∃ t, v = .str t ∧ Q (.str t) H2) (E σ)
theorem q_strO (M : MtC X.prog X.w X.K X.mg X.base k C "__str__" ps sp) (tk : Takes X W) (hr : Room (k + 2) X.A) (ha : PE X a ta) (hm : X.mg "str" = none) (hg : Gl X "str" := by rfl) (he : starEach [a] X.env = (false, eval a X.env) :: starEach [] X.env := by rfl) (hpl : (backTo pos (starEach [] X.env)).any (·.1) = false := by rfl) :
    PE X (.Call (.Name "str" p) [a] [] pos) (tStrO C sp (WE W) ta) := by
  obtain ⟨f, fd, mt, fnI, hb, F⟩ := M.fn
  refine ⟨fun pins s σ H Q I h => ?_⟩
  refine wpAny_Call_Name_kw (ld_blt I hg hm rfl ?_ (by decide) (by decide))
  refine PyProof.Rows.callWith_type1 (thn ((pa_cons ha pa_nil he).run pos pins s σ H (fun vs H1 => ∃ c dx fs, vs = [.ref c] ∧ H1 c = some (.ins C dx fs) ∧ sp [.ref c] H1 (fun v H2 => ∃ t, v = .str t ∧ Q (.str t) H2) (WE W σ)) I ?_) fun us s1 q => ?_) he hpl
  · show ta σ H fun v H1 => ∃ c dx fs, [v] = [.ref c] ∧ _
    have e : (fun v H1 => ∃ c dx fs, [v] = [V.ref c] ∧ H1 c = some (.ins C dx fs) ∧ sp [.ref c] H1 (fun v H2 => ∃ t, v = .str t ∧ Q (.str t) H2) (WE W σ)) = fun x (H1 : Hp) => ∃ c dx fs, x = .ref c ∧ H1 c = some (.ins C dx fs) ∧ sp [.ref c] H1 (fun v H2 => ∃ t, v = .str t ∧ Q (.str t) H2) (WE W σ) := by
      funext x H1
      simp only [List.cons.injEq, and_true]
    rw [e]
    exact h
  · obtain ⟨vs, H1, I1, r, c, dx, fs, rfl, hc, q⟩ := q
    obtain ⟨u, rfl, rx⟩ := vals1 r
    obtain rfl : u = Value.ref c := rx
    obtain ⟨od, J⟩ := inst_of I1 hc
    have fr := run_in2 (us := [.ref c]) (vs := [.ref c]) (W := W) F hr hb tk I1 (.cons rfl .nil) q
    refine PySem.W.kso_call (by have := hr.in1.in1.units; omega) I1.kIn J mt.at_ mt.fn ?_
    refine wpAny_mono fr (fun v s' hv => ?_) fun _ _ e => e
    obtain ⟨z, H', I', rz, t, ez, qz⟩ := hv
    subst ez
    obtain ⟨tk, rfl⟩ := rz
    exact ⟨.str t, H', I', ⟨tk, rfl⟩, qz⟩
theorem g_strO {E : L2.St → XK} {σ : L2.St} {H : Hp} {Q : VK} (h : ta σ H fun x H1 => ∃ c dx fs, x = .ref c ∧ H1 c = some (.ins C dx fs) ∧ sp [.ref c] H1 (fun v H2 => ∃ t, v = .str t ∧ Q (.str t) H2) (E σ)) : tStrO C sp E ta σ H Q := h
end
theorem m_clear {X : Cx} : MtR X "list.clear" rClear := mt_clear
theorem g_clear {H : Hp} {Q : VK} {l : Addr} {xs : List V} (h : H l = some (.lst xs)) (k : Q .non (upd H l (.lst []))) : rClear (.ref l) [] H Q := ⟨l, xs, rfl, rfl, h, k⟩
end NL
namespace NL
open PySem L2
local macro_rules | `(tactic| walk_at "wipe") => `(tactic| (simp only [wipe_cons, wipe_nil, List.map_cons, List.map_nil, List.set_cons_succ, List.set_cons_zero]; rfl))
local macro_rules | `(tactic| walk_at "mem") => `(tactic| first | assumption | exact List.mem_cons_self .. | (apply List.mem_cons_of_mem; walk_at "mem"))
local macro_rules | `(tactic| walk_at "sub") => `(tactic| first | exact no0 | exact subr | (refine sub1 ?_; walk_at "mem") | (refine subc ?_; walk_at "sub"))
local macro_rules | `(tactic| walk_at "df") => `(tactic| first
  | assumption | exact Df.int _ | exact Df.str _ | exact Df.non | exact Df.bl _
  | exact Bld.done (by assumption)
  | exact Dk.df (by assumption)
  | ((refine' Df.ed (by assumption) ?s ?h); (case s => walk_at "sub"); (case h => walk_at "df"))
  | ((refine' Df.via (by assumption) (by assumption) ?e ?h); (case e => walk_at "ed"); (case h => walk_at "df"))
  | ((refine' Df.more (by assumption) ?h); (case h => walk_at "df"))
  | ((refine' Df.weak ?s ?h); (case h => assumption); (case s => walk_at "sub")))
local macro_rules | `(tactic| walk_at "dfs") => `(tactic| first
  | assumption | exact DfAll.nil | ((refine' DfAll.cons ?a ?b); (case a => walk_at "df"); (case b => walk_at "dfs"))
  | exact DfAll.strs _ | exact DfAll.ints _)
local macro_rules | `(tactic| walk_at "dk") => `(tactic| first
  | assumption
  | ((refine' Dk.ed ?h (by assumption) ?s); (case s => walk_at "sub"); (case h => walk_at "dk"))
  | ((refine' Dk.via (by assumption) (by assumption) ?e ?h); (case e => walk_at "ed"); (case h => walk_at "dk"))
  | ((refine' Dk.more (by assumption) ?h); (case h => walk_at "dk")))
local macro_rules | `(tactic| walk_at "alive") => `(tactic| first | assumption | exact Bag.alive (by assumption) | exact Bld.alive (by assumption) | exact Df.alive (by assumption) | exact Dk.alive (by assumption))
local macro_rules | `(tactic| walk_at "wl") => `(tactic| first
  | assumption | exact Wl.nil
  | ((refine Wl.cons' ?a ?r); (case a => walk_at "alive"); (case r => walk_at "wl"))
  | ((refine Wl.ed ?r (by assumption)); (case r => walk_at "wl"))
  | exact Wl.tail (by assumption))
local macro_rules | `(tactic| walk_at "al") => `(tactic| first | exact Al.refl | ((refine' Al.of (by assumption) ?h); (case h => walk_at "al")))
local macro_rules | `(tactic| walk_at "fr") => `(tactic| first | assumption | ((refine' Al.free ?e (by assumption)); (case e => walk_at "al")))
local macro_rules | `(tactic| walk_at "edv") => `(tactic| first | exact no0 | ((refine edvl ?s); (case s => walk_at "sub")) | ((refine edv1 (Or.inr ?f)); (case f => walk_at "fr")))
local macro_rules | `(tactic| walk_at "ed") => `(tactic| first
  | assumption | exact Ed.refl
  | ((refine Ed.tr ?x (by assumption) ?v); (case x => walk_at "ed"); (case v => walk_at "edv")))
local macro_rules | `(tactic| walk_at "nb") => `(tactic| first | exact List.not_mem_nil | assumption | exact nb_bld (by assumption) (by walk_at "mem"))
local macro_rules | `(tactic| walk_at "bag") => `(tactic| first
  | assumption
  | ((refine' Bag.ed ?h (by assumption) ?n); (case n => walk_at "nb"); (case h => walk_at "bag"))
  | ((refine' Bag.via (by assumption) (by assumption) ?e ?h); (case e => walk_at "ed"); (case h => walk_at "bag")))
local macro_rules | `(tactic| walk_at "bld") => `(tactic| first
  | assumption
  | ((refine' Bld.ed ?h (by assumption) ?s); (case s => walk_at "sub"); (case h => walk_at "bld"))
  | ((refine' Bld.via (by assumption) (by assumption) ?e ?h); (case e => walk_at "ed"); (case h => walk_at "bld")))
local macro_rules | `(tactic| walk_at "num") => `(tactic| first | omega | assumption)
local macro_rules | `(tactic| walk_at "ne") => `(tactic| first
  | assumption
  | (apply Ne.symm; assumption)
  | (refine' ne_of_none ?n1 (by assumption); (case n1 => walk_at "hp"))
  | (refine' Ne.symm (ne_of_none ?n1 (by assumption)); (case n1 => walk_at "hp")))
local macro_rules | `(tactic| walk_at "hp") => `(tactic| first
  | assumption
  | with_reducible exact upd_same
  | ((with_reducible refine Eq.trans (upd_ne ?n1) ?n2); (case n1 => walk_at "ne"); (case n2 => walk_at "hp"))
  | ((with_reducible refine hp_same (by assumption) ?n2); (case n2 => walk_at "hp"))
  | ((with_reducible refine hp_sx (by assumption) ?n1 ?n2); (case n1 => simp only [List.mem_cons, List.not_mem_nil, or_false]; walk_at "ne"); (case n2 => walk_at "hp")))
local macro_rules | `(tactic| walk_at "sq") => `(tactic| first
  | assumption
  | ((refine' Or.inl ?n1); (case n1 => walk_at "sql"))
  | ((refine' Or.inr ?n1); (case n1 => walk_at "sqt")))
local macro_rules | `(tactic| walk_at "sql") => `(tactic| first
  | assumption
  | ((refine' SqL.of ?n1); (case n1 => walk_at "hp"))
  | (refine sqL_same (by assumption) ?n1; (case n1 => walk_at "same")))
local macro_rules | `(tactic| walk_at "same") => `(tactic| first
  | assumption
  | exact Same.refl _
  | (refine L2.Same.new ?n1 (by assumption); (case n1 => walk_at "same"))
  | (refine L2.Same.mut ?n1 ?n2; (case n2 => first | assumption | exact Same.free (by assumption) (by assumption)); (case n1 => walk_at "same")))
local macro_rules | `(tactic| walk_at "sqt") => `(tactic| first
  | assumption
  | ((refine' SqT.of ?n1); (case n1 => walk_at "hp")))
local macro_rules | `(tactic| walk_at "size") => `(tactic| (rw [sizeLine_eq] <;> first | omega | (simp; omega)))
local macro_rules | `(tactic| walk_at "flat") => `(tactic| first | assumption | exact flat_strs _ | exact flat_ints _ | rfl | simp [flatV])
local macro_rules | `(tactic| walk_at "go1") => `(tactic| first
  | with_reducible refine g_seq ?_
  | with_reducible refine g_asg ?_
  | ((with_reducible refine' g_nameE ?z ?_); (case z => (simp only [List.set_cons_succ, List.set_cons_zero]; rfl)))
  | with_reducible refine g_name ?_
  | with_reducible refine g_op ?_
  | ((with_reducible refine' g_var ?z ?_); (case z => exact rfl))
  | with_reducible refine g_c ?_
  | with_reducible refine g_cb ?_
  | with_reducible refine g_cons ?_
  | with_reducible refine g_nil ?_
  | with_reducible refine g_ifS ?_
  | with_reducible refine g_test ?_
  | with_reducible refine g_tb ?_
  | with_reducible refine g_bl ?_
  | with_reducible refine g_not ?_
  | with_reducible refine g_and ?_
  | with_reducible refine g_or ?_
  | with_reducible refine g_ret ?_
  | with_reducible refine g_retN ?_
  | with_reducible refine g_drop ?_
  | with_reducible refine g_ifE ?_
  | with_reducible refine g_callS ?_
  | with_reducible refine g_sub ?_
  | with_reducible refine g_un ?_
  | with_reducible refine g_next ?_
  | with_reducible refine g_cmp_i ?_
  | with_reducible refine g_add_i ?_
  | with_reducible refine g_sub_i ?_
  | with_reducible refine g_int_i ?_
  | with_reducible refine g_eq_i ?_
  | with_reducible refine g_eq_s ?_
  | with_reducible refine g_eq_b ?_
  | with_reducible refine g_ne_i ?_
  | with_reducible refine g_ne_s ?_
  | with_reducible refine g_ne_b ?_
  | with_reducible refine g_str_s ?_
  | with_reducible refine g_abs ?_
  | with_reducible refine g_max ?_
  | with_reducible refine g_min ?_
  | with_reducible refine g_isN ?_
  | with_reducible refine g_isNotN ?_
  | ((with_reducible refine g_mod_i ?z ?_); (case z => walk_at "num"))
  | ((with_reducible refine g_div_i ?z ?_); (case z => exact ⟨by walk_at "num", by first | assumption | decide⟩))
  | ((with_reducible refine g_mul_i ?z ?_); (case z => first | exact Or.inl (Or.inr ⟨by omega, by omega⟩) | exact Or.inl (Or.inl ⟨by omega, by omega⟩) | assumption))
  | ((with_reducible refine' g_ix_l ?z1 ?z2 ?_); (case z1 => walk_at "sq"); (case z2 => first | rfl | assumption))
  | ((with_reducible refine' g_setL ?z1 ?z2 ?_); (case z1 => walk_at "hp"); (case z2 => first | rfl | assumption))
  | ((with_reducible refine' g_len_l ?z1 ?_); (case z1 => walk_at "sq"))
  | ((with_reducible refine' g_augE ?z ?_); (case z => exact rfl))
  | with_reducible refine g_for ?_
  | with_reducible refine g_lc ?_
  | with_reducible refine g_iL ?_
  | with_reducible refine g_iT ?_
  | with_reducible refine g_iS ?_
  | with_reducible refine g_iS1 ?_
  | with_reducible refine g_iE ?_
  | with_reducible refine g_iR ?_
  | ((with_reducible refine' g_iL1 ?z1 ?_); (case z1 => walk_at "sql"))
  | ((with_reducible refine' g_iT1 ?z1 ?_); (case z1 => walk_at "sqt"))
  | ((with_reducible refine' g_iE1 ?z1 ?_); (case z1 => walk_at "sql"))
  | ((with_reducible refine g_iR1 ?z1 ?z2 ?_); (case z1 => walk_at "num"); (case z2 => walk_at "num"))
  | with_reducible refine g_yes ?_
  | with_reducible refine g_sl ?_
  | with_reducible refine g_noP ?_
  | with_reducible refine g_part ?_
  | ((with_reducible refine g_pow_i ?z ?_); (case z => exact ⟨by decide, by decide, by decide⟩))
  | ((with_reducible refine g_len_s ?z ?_); (case z => first | assumption | walk_at "size"))
  | with_reducible refine iteT ?_
  | with_reducible refine iteF ?_
  | with_reducible refine iteNT ?_
  | with_reducible refine iteNF ?_
  | with_reducible refine g_int1 ?_
  | ((with_reducible refine' g_slL ?z1 ?_); (case z1 => walk_at "sql"))
  | ((with_reducible refine' g_listL ?z1 ?_); (case z1 => walk_at "sq"))
  | ((with_reducible refine' g_inLs ?z1 ?_); (case z1 => walk_at "sq"))
  | ((with_reducible refine' g_ninLs ?z1 ?_); (case z1 => walk_at "sq"))
  | with_reducible refine g_ip ?_
  | with_reducible refine g_rU ?_
  | ((with_reducible refine' g_inL ?z1 ?z2 ?z3 ?_); (case z1 => walk_at "sq"); (case z2 => rfl); (case z3 => walk_at "flat"))
  | ((with_reducible refine' g_ninL ?z1 ?z2 ?z3 ?_); (case z1 => walk_at "sq"); (case z2 => rfl); (case z3 => walk_at "flat"))
  | with_reducible refine g_inS ?_
  | with_reducible refine g_ninS ?_
  | with_reducible refine g_bm ?_
  | with_reducible refine g_bm0 ?_
  | ((with_reducible refine' g_tyL ?z1 ?_); (case z1 => walk_at "sql"))
  | with_reducible refine g_tyS ?_
  | ((with_reducible refine' g_tyB ?z1 ?_); (case z1 => assumption))
  | ((with_reducible refine' g_tyD ?z1 ?_); (case z1 => assumption))
  | ((with_reducible refine' g_app ?z1 ?z2 ?_); (case z1 => walk_at "hp"); (case z2 => walk_at "size"))
  | ((with_reducible refine' g_join ?z1 ?z2 ?_); (case z1 => walk_at "sq"); (case z2 => walk_at "size"))
  | ((with_reducible refine g_words ?z ?_); (case z => walk_at "size"))
  | ((with_reducible refine g_split ?z1 ?z ?_); (case z1 => rfl); (case z => walk_at "size"))
  | with_reducible refine g_lst ?_
  | with_reducible refine g_tup ?_
  | with_reducible refine tru_b ?_
  | with_reducible refine tru_n ?_
  | with_reducible refine tru_i ?_
  | with_reducible refine g_andT ?_
  | with_reducible refine g_orT ?_
  | with_reducible refine g_notT ?_
  | with_reducible refine g_raise ?_
  | with_reducible refine g_raised ?_
  | with_reducible refine g_make ?_
  | with_reducible refine g_meth ?_
  | with_reducible refine g_fld ?_
  | with_reducible refine g_sfld ?_
  | ((with_reducible refine' g_gf ?z1 ?z2 ?z3 ?z4 ?_); (case z1 => walk_at "hp"); (case z2 => assumption); (case z3 => assumption); (case z4 => rfl))
  | ((with_reducible refine' g_sf ?z1 ?z2 ?z3 ?z4 ?_); (case z1 => walk_at "hp"); (case z2 => assumption); (case z3 => assumption); (case z4 => exact Nat.lt_of_lt_of_le (Nat.lt_succ_self _) (Nat.le_of_ble_eq_true rfl)))
  | ((with_reducible refine' g_gtup ?z1 ?z2 ?_); (case z1 => walk_at "sqt"); (case z2 => rfl))
  | with_reducible refine g_gcons ?_
  | with_reducible refine g_gnil ?_
  | with_reducible refine g_callO ?_
  | ((with_reducible refine' g_co ?z1 ?_); (case z1 => walk_at "hp"))
  | ((with_reducible refine' g_ci ?z1 ?_); (case z1 => walk_at "hp"))
  | with_reducible refine g_dget ?_
  | ((with_reducible refine' g_dgs ?z1 ?z2 ?_); (case z1 => walk_at "hp"); (case z2 => first | assumption | rfl))
  | with_reducible refine g_dput ?_
  | ((with_reducible refine' g_dps ?z1 ?z2 ?_); (case z1 => walk_at "hp"); (case z2 => walk_at "size"))
  | with_reducible refine g_match ?_
  | with_reducible refine g_matched ?_
  | with_reducible refine g_mcs ?_
  | with_reducible refine g_mcg ?_
  | with_reducible refine g_many ?_
  | with_reducible refine g_mnil ?_
  | with_reducible refine g_afld ?_
  | with_reducible refine g_rAdd ?_
  | with_reducible refine g_rSub ?_
  | ((with_reducible refine' g_gfa ?z1 ?z2 ?z3 ?z4 ?_); (case z1 => walk_at "hp"); (case z2 => assumption); (case z3 => assumption); (case z4 => rfl))
  | ((with_reducible refine' g_af ?z1 ?z2 ?_); (case z1 => walk_at "hp"); (case z2 => exact Nat.lt_of_lt_of_le (Nat.lt_succ_self _) (Nat.le_of_ble_eq_true rfl)))
  | ((with_reducible refine' g_mt ?z1 ?z2 ?_); (case z1 => walk_at "hp"); (case z2 => rfl))
  | with_reducible refine g_ite_refl ?_
  | with_reducible refine g_iZ ?_
  | with_reducible refine g_din ?_
  | with_reducible refine g_par ?_
  | with_reducible refine g_par2 ?_
  | ((with_reducible refine' g_iTd ?z1 ?_); (case z1 => assumption))
  | with_reducible refine g_dget2 ?_
  | ((with_reducible refine' g_isd ?z1 ?_); (case z1 => assumption))
  | with_reducible refine g_dnin ?_
  | with_reducible refine g_disp ?_
  | with_reducible refine g_pr ?_
  | with_reducible refine g_pr0 ?_
  | ((with_reducible refine' g_iLd ?z1 ?_); (case z1 => assumption))
  | ((with_reducible refine' g_iEd ?z1 ?_); (case z1 => assumption))
  | ((with_reducible refine' g_iZd ?z1 ?z2 ?_); (case z1 => assumption); (case z2 => assumption))
  | ((with_reducible refine' g_lend ?z1 ?_); (case z1 => assumption))
  | ((with_reducible refine' g_inds ?z1 ?_); (case z1 => assumption))
  | ((with_reducible refine' g_ninds ?z1 ?_); (case z1 => assumption))
  | ((with_reducible refine' g_dgd ?z1 ?z2 ?_); (case z1 => assumption); (case z2 => first | assumption | rfl))
  | with_reducible refine g_par3 ?_
  | with_reducible refine g_par33 ?_
  | with_reducible refine g_cm ?_
  | with_reducible refine g_star ?_
  | ((with_reducible refine' g_makeL ?z1 ?_); (case z1 => exact rfl))
  | with_reducible refine g_brk ?_
  | with_reducible refine g_cont ?_)
local macro_rules | `(tactic| walk_at "go") => `(tactic| repeat walk_at "go1")
-- EV
local macro_rules | `(tactic| walk_at "fin") => `(tactic| first | exact NQ.fin0 | exact NQ.fin_o (by walk_at "fin") rfl | exact NQ.fin_f (by walk_at "fin") rfl)
local macro_rules | `(tactic| walk_at "evo") => `(tactic| first
  | ((with_reducible refine' NQ.wo_ix_l ?z1 ?_); (case z1 => first | exact NQ.atI0 | exact NQ.atI1 | exact NQ.atI2 | exact NQ.atI3 | exact NQ.atI4 | assumption))
  | ((with_reducible refine' NQ.wo_ix_t ?z1 ?_); (case z1 => first | exact NQ.atI0 | exact NQ.atI1 | exact NQ.atI2 | exact NQ.atI3 | exact NQ.atI4 | assumption))
  | ((with_reducible refine' NQ.wo_fld ?z1 ?_); (case z1 => exact rfl))
  | ((with_reducible refine' NQ.wo_eq ?z1 ?_); (case z1 => first | assumption | exact NQ.eqB_ii | exact NQ.eqB_ss | exact NQ.eqB_bb | exact NQ.eqB_pl 9 (by first | rfl | assumption) (by first | rfl | assumption)))
  | ((with_reducible refine' NQ.wo_ne ?z1 ?_); (case z1 => first | assumption | exact NQ.eqB_ii | exact NQ.eqB_ss | exact NQ.eqB_bb | exact NQ.eqB_pl 9 (by first | rfl | assumption) (by first | rfl | assumption)))
  | with_reducible refine NQ.wo_addi ?_
  | with_reducible refine NQ.wo_len_l ?_
  | ((with_reducible refine' NQ.wo_ix_dt ?z1 ?z2 ?_); (case z1 => first | exact rfl | assumption); (case z2 => assumption))
  | with_reducible refine NQ.wo_addAi ?_
  | with_reducible refine NQ.wo_addI ?_
  | with_reducible refine NQ.wo_subI ?_
  | with_reducible refine NQ.wo_subi ?_
  | with_reducible refine NQ.wo_cmp ?_
  | with_reducible refine NQ.wo_neg ?_
  | with_reducible refine NQ.wo_isN ?_
  | with_reducible refine NQ.wo_notN ?_
  | with_reducible refine NQ.wo_len_t ?_
  | with_reducible refine NQ.wo_len_c ?_
  | with_reducible refine NQ.wo_int_i ?_
  | with_reducible refine NQ.wo_int_b ?_
  | with_reducible refine NQ.wo_str_s ?_
  | with_reducible refine NQ.wo_abs ?_
  | with_reducible refine NQ.wo_max ?_
  | with_reducible refine NQ.wo_min ?_
  | with_reducible refine NQ.wo_list_l ?_
  | with_reducible refine NQ.wo_list_t ?_
  | with_reducible refine NQ.wo_list_c ?_
  | with_reducible refine NQ.wo_tuple ?_
  | with_reducible refine NQ.wo_slL1 ?_
  | with_reducible refine NQ.wo_slL2 ?_
  | with_reducible refine NQ.wo_slL3 ?_
  | ((with_reducible refine' NQ.wo_adds ?z1 ?_); (case z1 => first | assumption | omega | (simp only [List.length_cons, List.length_nil, List.length_append, List.length_map, NQ.rg_len, List.length_range, Str.length_append] <;> omega) | decide +kernel))
  | ((with_reducible refine' NQ.wo_addAs ?z1 ?_); (case z1 => first | assumption | omega | (simp only [List.length_cons, List.length_nil, List.length_append, List.length_map, NQ.rg_len, List.length_range, Str.length_append] <;> omega) | decide +kernel))
  | ((with_reducible refine' NQ.wo_addL ?z1 ?_); (case z1 => first | assumption | omega | (simp only [List.length_cons, List.length_nil, List.length_append, List.length_map, NQ.rg_len, List.length_range, Str.length_append] <;> omega) | decide +kernel))
  | ((with_reducible refine' NQ.wo_addAl ?z1 ?_); (case z1 => first | assumption | omega | (simp only [List.length_cons, List.length_nil, List.length_append, List.length_map, NQ.rg_len, List.length_range, Str.length_append] <;> omega) | decide +kernel))
  | ((with_reducible refine' NQ.wo_addU ?z1 ?_); (case z1 => first | assumption | omega | (simp only [List.length_cons, List.length_nil, List.length_append, List.length_map, NQ.rg_len, List.length_range, Str.length_append] <;> omega) | decide +kernel))
  | ((with_reducible refine' NQ.wo_len_s ?z1 ?_); (case z1 => first | assumption | omega | (simp only [List.length_cons, List.length_nil, List.length_append, List.length_map, NQ.rg_len, List.length_range, Str.length_append] <;> omega) | decide +kernel))
  | ((with_reducible refine' NQ.wo_list_s ?z1 ?_); (case z1 => first | assumption | omega | (simp only [List.length_cons, List.length_nil, List.length_append, List.length_map, NQ.rg_len, List.length_range, Str.length_append] <;> omega) | decide +kernel))
  | ((with_reducible refine' NQ.wo_lst ?z1 ?_); (case z1 => first | assumption | omega | (simp only [List.length_cons, List.length_nil, List.length_append, List.length_map, NQ.rg_len, List.length_range, Str.length_append] <;> omega) | decide +kernel))
  | ((with_reducible refine' NQ.wo_tup ?z1 ?_); (case z1 => first | assumption | omega | (simp only [List.length_cons, List.length_nil, List.length_append, List.length_map, NQ.rg_len, List.length_range, Str.length_append] <;> omega) | decide +kernel))
  | ((with_reducible refine' NQ.wo_slS1 ?z1 ?_); (case z1 => first | assumption | omega | (simp only [List.length_cons, List.length_nil, List.length_append, List.length_map, NQ.rg_len, List.length_range, Str.length_append] <;> omega) | decide +kernel))
  | ((with_reducible refine' NQ.wo_slS2 ?z1 ?_); (case z1 => first | assumption | omega | (simp only [List.length_cons, List.length_nil, List.length_append, List.length_map, NQ.rg_len, List.length_range, Str.length_append] <;> omega) | decide +kernel))
  | ((with_reducible refine' NQ.wo_slS3 ?z1 ?_); (case z1 => first | assumption | omega | (simp only [List.length_cons, List.length_nil, List.length_append, List.length_map, NQ.rg_len, List.length_range, Str.length_append] <;> omega) | decide +kernel))
  | ((with_reducible refine' NQ.wo_words ?z1 ?_); (case z1 => first | assumption | omega | (simp only [List.length_cons, List.length_nil, List.length_append, List.length_map, NQ.rg_len, List.length_range, Str.length_append] <;> omega) | decide +kernel))
  | ((with_reducible refine' NQ.wo_strip ?z1 ?_); (case z1 => first | assumption | omega | (simp only [List.length_cons, List.length_nil, List.length_append, List.length_map, NQ.rg_len, List.length_range, Str.length_append] <;> omega) | decide +kernel))
  | ((with_reducible refine' NQ.wo_muliR ?z1 ?z2 ?_); (case z1 => first | omega | assumption | decide); (case z2 => first | omega | assumption | decide))
  | ((with_reducible refine' NQ.wo_muliL ?z1 ?z2 ?_); (case z1 => first | omega | assumption | decide); (case z2 => first | omega | assumption | decide))
  | ((with_reducible refine' NQ.wo_mulAR ?z1 ?z2 ?_); (case z1 => first | omega | assumption | decide); (case z2 => first | omega | assumption | decide))
  | ((with_reducible refine' NQ.wo_mulAL ?z1 ?z2 ?_); (case z1 => first | omega | assumption | decide); (case z2 => first | omega | assumption | decide))
  | ((with_reducible refine' NQ.wo_muls ?z1 ?_); (case z1 => (refine ⟨?_, ?_, ?_⟩ <;> first | omega | decide | (exact Nat.le_of_ble_eq_true rfl) | (simp only [List.length_cons, List.length_nil, List.length_append, List.length_map, NQ.rg_len, List.length_range, Str.length_append] <;> omega) | assumption)))
  | ((with_reducible refine' NQ.wo_mulL ?z1 ?_); (case z1 => (refine ⟨?_, ?_, ?_⟩ <;> first | omega | decide | (exact Nat.le_of_ble_eq_true rfl) | (simp only [List.length_cons, List.length_nil, List.length_append, List.length_map, NQ.rg_len, List.length_range, Str.length_append] <;> omega) | assumption)))
  | ((with_reducible refine' NQ.wo_mulAl ?z1 ?_); (case z1 => (refine ⟨?_, ?_, ?_⟩ <;> first | omega | decide | (exact Nat.le_of_ble_eq_true rfl) | (simp only [List.length_cons, List.length_nil, List.length_append, List.length_map, NQ.rg_len, List.length_range, Str.length_append] <;> omega) | assumption)))
  | ((with_reducible refine' NQ.wo_modi ?z1 ?_); (case z1 => first | omega | assumption | decide))
  | ((with_reducible refine' NQ.wo_divi ?z1 ?z2 ?_); (case z1 => first | omega | assumption | decide); (case z2 => first | omega | assumption | decide))
  | ((with_reducible refine' NQ.wo_powi ?z1 ?z2 ?z3 ?z4 ?_); (case z1 => first | omega | assumption | decide); (case z2 => first | omega | assumption | decide); (case z3 => first | omega | assumption | decide); (case z4 => first | omega | assumption | decide))
  | ((with_reducible refine' NQ.wo_in ?z1 ?_); (case z1 => first | assumption | exact NQ.memB_ch (by first | rfl | assumption) | exact NQ.memB_c (by first | rfl | assumption) | exact NQ.memB_l (by first | rfl | assumption) (by first | rfl | assumption) | exact NQ.memB_t (by first | rfl | assumption) (by first | rfl | assumption)))
  | ((with_reducible refine' NQ.wo_nin ?z1 ?_); (case z1 => first | assumption | exact NQ.memB_ch (by first | rfl | assumption) | exact NQ.memB_c (by first | rfl | assumption) | exact NQ.memB_l (by first | rfl | assumption) (by first | rfl | assumption) | exact NQ.memB_t (by first | rfl | assumption) (by first | rfl | assumption)))
  | ((with_reducible refine' NQ.wo_disp ?z1 ?z2 ?z3 ?_); (case z1 => decide +kernel); (case z2 => exact rfl); (case z3 => decide))
  | ((with_reducible refine' NQ.wo_split ?z1 ?z2 ?_); (case z1 => first | exact rfl | assumption | decide +kernel); (case z2 => first | assumption | omega | (simp only [List.length_cons, List.length_nil, List.length_append, List.length_map, NQ.rg_len, List.length_range, Str.length_append] <;> omega) | decide +kernel))
  | ((with_reducible refine' NQ.wo_join ?z1 ?z2 ?_); (case z1 => first | assumption | exact rfl); (case z2 => first | assumption))
  | ((with_reducible refine' NQ.wo_ixR_l ?z1 ?z2 ?_); (case z1 => first | exact NQ.atI0 | exact NQ.atI1 | exact NQ.atI2 | exact NQ.atI3 | exact NQ.atI4 | assumption); (case z2 => first | exact rfl | assumption))
  | ((with_reducible refine' NQ.wo_ixR_t ?z1 ?z2 ?_); (case z1 => first | exact NQ.atI0 | exact NQ.atI1 | exact NQ.atI2 | exact NQ.atI3 | exact NQ.atI4 | assumption); (case z2 => first | exact rfl | assumption))
  | ((with_reducible refine' NQ.wo_ix_s ?z1 ?z2 ?_); (case z1 => assumption); (case z2 => first | assumption | omega | (simp only [List.length_cons, List.length_nil, List.length_append, List.length_map, NQ.rg_len, List.length_range, Str.length_append] <;> omega) | decide +kernel))
  | ((with_reducible refine' NQ.wo_isi ?z1 ?z2 ?_); (case z1 => first | assumption | exact rfl); (case z2 => first | assumption | exact rfl))
  | ((with_reducible refine' NQ.wo_ix_d ?z1 ?z2 ?_); (case z1 => exact rfl); (case z2 => assumption)))
local macro_rules | `(tactic| walk_at "evq") => `(tactic| first
  | with_reducible refine NQ.wq_ePq ?_
  | with_reducible refine NQ.wq_notV ?_
  | with_reducible refine NQ.wq_isX ?_
  | ((with_reducible refine' NQ.wq_eP ?z1 ?z2 ?_); (case z1 => exact rfl); (case z2 => exact rfl))
  | ((with_reducible refine' NQ.wq_eq ?z1 ?_); (case z1 => assumption))
  | with_reducible refine NQ.wq_opq ?_
  | with_reducible refine NQ.wq_eC ?_
  | with_reducible refine NQ.wq_if ?_
  | with_reducible refine NQ.wq_andV ?_
  | with_reducible refine NQ.wq_orV ?_
  | with_reducible refine NQ.wq_ch ?_
  | ((with_reducible refine' NQ.wq_eV ?z1 ?_); (case z1 => exact rfl))
  | ((with_reducible refine NQ.g_wqo ?_); walk_at "evo"))
local macro_rules | `(tactic| walk_at "evs") => `(tactic| first
  | with_reducible refine NQ.ws_seq ?_
  | with_reducible refine NQ.ws_next ?_
  | with_reducible refine NQ.ws_brk ?_
  | with_reducible refine NQ.ws_cont ?_
  | with_reducible refine NQ.ws_set ?_
  | with_reducible refine NQ.ws_drop ?_
  | with_reducible refine NQ.ws_ret ?_
  | with_reducible refine NQ.ws_retN ?_
  | with_reducible refine NQ.ws_if ?_
  | with_reducible refine NQ.ws_for ?_
  | with_reducible refine NQ.ws_asg ?_
  | with_reducible refine NQ.ws_raise ?_
  | with_reducible refine NQ.ws_match ?_
  | with_reducible refine NQ.ws_mNil ?_
  | with_reducible refine NQ.ws_mAny ?_
  | with_reducible refine NQ.ws_mCs ?_
  | with_reducible refine NQ.ws_mCg ?_
  | with_reducible refine NQ.ws_tryAs ?_
  | with_reducible refine NQ.ws_try ?_
  | with_reducible refine NQ.ws_par2 ?_
  | with_reducible refine NQ.ws_mov ?_
  | with_reducible refine NQ.ws_bor ?_
  | with_reducible refine NQ.ws_setO ?_
  | with_reducible refine NQ.ws_forK ?_
  | with_reducible refine NQ.ws_tryA ?_
  | with_reducible refine NQ.ws_hdN ?_
  | with_reducible refine NQ.ws_hd1 ?_
  | with_reducible refine NQ.ws_hdA ?_
  | with_reducible refine NQ.ws_setN ?_
  | with_reducible refine NQ.ws_setIx ?_
  | ((with_reducible refine' NQ.ws_retV ?z1 ?_); (case z1 => exact rfl))
  | ((with_reducible refine' NQ.ws_aug ?z1 ?_); (case z1 => exact rfl))
  | ((with_reducible refine' NQ.ws_frz ?z1 ?_); (case z1 => exact rfl))
  | with_reducible refine NQ.ws_fld ?_
  | with_reducible refine NQ.ws_afld ?_
  | with_reducible refine NQ.ws_putD ?_
  | with_reducible refine NQ.ws_setP ?_)
local macro_rules | `(tactic| walk_at "eve") => `(tactic| first
  | with_reducible refine NQ.we_srt ?_
  | with_reducible refine NQ.we_sp ?_
  | with_reducible refine NQ.we_notW ?_
  | with_reducible refine NQ.we_tupRg ?_
  | with_reducible refine NQ.we_lstRg ?_
  | with_reducible refine NQ.we_ch ?_
  | with_reducible refine NQ.we_makeK ?_
  | with_reducible refine NQ.we_cm ?_
  | with_reducible refine NQ.we_lstO ?_
  | with_reducible refine NQ.we_callT ?_
  | with_reducible refine NQ.we_app ?_
  | with_reducible refine NQ.we_appP ?_
  | with_reducible refine NQ.we_newK ?_
  | with_reducible refine NQ.we_newT ?_
  | with_reducible refine NQ.we_make ?_
  | with_reducible refine NQ.we_methF ?_
  | ((with_reducible refine' NQ.we_meth ?z1 ?z2 ?_); (case z1 => exact rfl); (case z2 => decide +kernel))
  | with_reducible refine NQ.we_qE ?_
  | with_reducible refine NQ.we_opn ?_
  | with_reducible refine NQ.we_opnc ?_
  | with_reducible refine NQ.we_disp ?_
  | with_reducible refine NQ.we_call ?_
  | with_reducible refine NQ.we_if ?_
  | with_reducible refine NQ.we_andW ?_
  | with_reducible refine NQ.we_orW ?_
  | with_reducible refine NQ.we_lc ?_)
local macro_rules | `(tactic| walk_at "evt") => `(tactic| first
  | with_reducible refine NQ.wt_asB ?_
  | with_reducible refine NQ.wt_asTru ?_
  | with_reducible refine NQ.wt_not ?_
  | with_reducible refine NQ.wt_and ?_
  | with_reducible refine NQ.wt_or ?_
  | with_reducible refine NQ.wt_b ?_
  | with_reducible refine NQ.wt_i ?_
  | with_reducible refine NQ.wt_l ?_
  | with_reducible refine NQ.wt_n ?_
  | ((with_reducible refine' NQ.wt_s ?z1 ?_); (case z1 => first | assumption | omega | (simp only [List.length_cons, List.length_nil, List.length_append, List.length_map, NQ.rg_len, List.length_range, Str.length_append] <;> omega) | decide +kernel)))
local macro_rules | `(tactic| walk_at "ev1") => `(tactic| first
  | ((with_reducible refine NQ.g_wq ?_); walk_at "evq")
  | ((with_reducible refine NQ.g_ws ?_); walk_at "evs")
  | ((with_reducible refine NQ.g_we ?_); walk_at "eve")
  | ((with_reducible refine NQ.g_wt ?_); walk_at "evt")
  | ((with_reducible refine' NQ.nm_eq ?z1 ?_); (case z1 => (simp only [NQ.st0, NQ.stS, NQ.wp0, NQ.wpS, NQ.wb0, NQ.wbV, NQ.wbE, NQ.sk0, NQ.skV, NQ.skE, NQ.isO_fz, NQ.isO_vw, NQ.isO_all, NQ.isO_opt, NQ.isO_flds, NQ.isO_row, NQ.mp0, NQ.mpS, NQ.ap0, NQ.apS, NQ.rp0, NQ.rpS, if_true, if_false, Bool.false_eq_true] <;> exact rfl)))
  | with_reducible refine NQ.pw_nil ?_
  | with_reducible refine NQ.pw_fld ?_
  | with_reducible refine NQ.pw_ix ?_
  | with_reducible refine NQ.bk_mk ?_
  | with_reducible refine NQ.wi_en2 ?_
  | with_reducible refine NQ.wi_z ?_
  | with_reducible refine NQ.wo_nil ?_
  | with_reducible refine NQ.wo_new ?_
  | ((with_reducible refine' NQ.wo_mov ?z1 ?_); (case z1 => exact rfl))
  | with_reducible refine NQ.mkn ?_
  | ((with_reducible refine' NQ.mthF ?z1 ?_); (case z1 => first | assumption | decide +kernel))
  | ((with_reducible refine' NQ.fp_here ?z1 ?z2 ?_); (case z1 => (show _ < 1000; decide)); (case z2 => exact rfl))
  | with_reducible refine NQ.wa_nil ?_
  | with_reducible refine NQ.wa_val ?_
  | with_reducible refine NQ.wl_nil ?_
  | with_reducible refine NQ.wl_cons ?_
  | with_reducible refine NQ.wb_asBE ?_
  | with_reducible refine NQ.wb_asTruE ?_
  | with_reducible refine NQ.wb_qB ?_
  | with_reducible refine NQ.wb_yes ?_
  | with_reducible refine NQ.wb_not ?_
  | with_reducible refine NQ.wb_and ?_
  | with_reducible refine NQ.wb_or ?_
  | with_reducible refine NQ.wd_gN ?_
  | with_reducible refine NQ.wd_nil ?_
  | with_reducible refine NQ.wd_cons ?_
  | with_reducible refine NQ.wi_it ?_
  | with_reducible refine NQ.wi_r1 ?_
  | with_reducible refine NQ.wi_r2 ?_
  | with_reducible refine NQ.wi_en ?_
  | ((with_reducible refine' NQ.wa_var ?z1 ?_); (case z1 => exact rfl))
  | ((with_reducible refine' NQ.wd_gT ?z1 ?_); (case z1 => exact rfl))
  | ((with_reducible refine' NQ.wf_eq ?z1 ?_); (case z1 => assumption))
  | ((with_reducible refine' NQ.wf_eqX ?z1 ?_); (case z1 => assumption))
  | with_reducible refine NQ.wtw_b ?_
  | with_reducible refine NQ.wtw_n ?_
  | with_reducible refine NQ.wtw_i ?_
  | with_reducible refine NQ.wtw_l ?_
  | ((with_reducible refine' NQ.ite_t ?z1 ?_); (case z1 => first | exact rfl | assumption | exact decide_eq_true (by assumption)))
  | ((with_reducible refine' NQ.ite_f ?z1 ?_); (case z1 => first | exact rfl | assumption | exact decide_eq_false (by assumption)))
  | with_reducible refine NQ.is_mk ?_
  | ((with_reducible refine' NQ.at_mk ?z1 ?_); (case z1 => exact rfl))
  | ((with_reducible refine' NQ.so_mk ?z1 ?_); (case z1 => first | assumption | exact rfl))
  | ((with_reducible refine' NQ.s2_mk ?z1 ?_); (case z1 => first | assumption))
  | ((with_reducible refine' NQ.so_mk (t := true) ?z1 ?_); (case z1 => decide +kernel))
  | ((with_reducible refine' NQ.so_mk (t := false) ?z1 ?_); (case z1 => decide +kernel))
  | ((with_reducible refine' NQ.sd_mk ?z1 ?_); (case z1 => first | exact rfl | assumption | omega | exact NQ.insAt_c rfl rfl | exact NQ.insAt_c rfl (NQ.insAt_c rfl rfl) | exact ⟨_, _, rfl⟩ | (simp only [List.length_cons, List.length_nil, List.length_append, List.length_map, NQ.rg_len, List.length_range, NQ.sz_eq] <;> omega) | decide))
  | ((with_reducible refine' NQ.fn_mk ?z1 ?_); (case z1 => walk_at "fin"))
  | ((with_reducible refine' NQ.wf_fn ?_)))
local macro_rules | `(tactic| walk_at "ev") => `(tactic| repeat walk_at "ev1")
local macro_rules | `(tactic| walk_at "evro") => `(tactic| first
  | ((with_reducible refine' NQ.wo_ix_l ?z1 ?_); (case z1 => first | exact NQ.atI0 | exact NQ.atI1 | exact NQ.atI2 | exact NQ.atI3 | exact NQ.atI4 | with_reducible assumption))
  | ((with_reducible refine' NQ.wo_ix_t ?z1 ?_); (case z1 => first | exact NQ.atI0 | exact NQ.atI1 | exact NQ.atI2 | exact NQ.atI3 | exact NQ.atI4 | with_reducible assumption))
  | ((with_reducible refine' NQ.wo_fld ?z1 ?_); (case z1 => exact rfl))
  | ((with_reducible refine' NQ.wo_eq ?z1 ?_); (case z1 => first | with_reducible assumption | exact NQ.eqB_ii | exact NQ.eqB_ss | exact NQ.eqB_bb | exact NQ.eqB_pl 9 (by first | rfl | with_reducible assumption) (by first | rfl | with_reducible assumption)))
  | ((with_reducible refine' NQ.wo_ne ?z1 ?_); (case z1 => first | with_reducible assumption | exact NQ.eqB_ii | exact NQ.eqB_ss | exact NQ.eqB_bb | exact NQ.eqB_pl 9 (by first | rfl | with_reducible assumption) (by first | rfl | with_reducible assumption)))
  | with_reducible refine NQ.wo_addi ?_
  | with_reducible refine NQ.wo_len_l ?_
  | ((with_reducible refine' NQ.wo_ix_dt ?z1 ?z2 ?_); (case z1 => first | exact rfl | with_reducible assumption); (case z2 => with_reducible assumption))
  | with_reducible refine NQ.wo_addAi ?_
  | with_reducible refine NQ.wo_addI ?_
  | with_reducible refine NQ.wo_subI ?_
  | with_reducible refine NQ.wo_subi ?_
  | with_reducible refine NQ.wo_cmp ?_
  | with_reducible refine NQ.wo_neg ?_
  | with_reducible refine NQ.wo_isN ?_
  | with_reducible refine NQ.wo_notN ?_
  | with_reducible refine NQ.wo_len_t ?_
  | with_reducible refine NQ.wo_len_c ?_
  | with_reducible refine NQ.wo_int_i ?_
  | with_reducible refine NQ.wo_int_b ?_
  | with_reducible refine NQ.wo_str_s ?_
  | with_reducible refine NQ.wo_abs ?_
  | with_reducible refine NQ.wo_max ?_
  | with_reducible refine NQ.wo_min ?_
  | with_reducible refine NQ.wo_list_l ?_
  | with_reducible refine NQ.wo_list_t ?_
  | with_reducible refine NQ.wo_list_c ?_
  | with_reducible refine NQ.wo_tuple ?_
  | with_reducible refine NQ.wo_slL1 ?_
  | with_reducible refine NQ.wo_slL2 ?_
  | with_reducible refine NQ.wo_slL3 ?_
  | ((with_reducible refine' NQ.wo_adds ?z1 ?_); (case z1 => first | with_reducible assumption | omega | (simp only [List.length_cons, List.length_nil, List.length_append, List.length_map, NQ.rg_len, List.length_range, Str.length_append] <;> omega) | decide +kernel))
  | ((with_reducible refine' NQ.wo_addAs ?z1 ?_); (case z1 => first | with_reducible assumption | omega | (simp only [List.length_cons, List.length_nil, List.length_append, List.length_map, NQ.rg_len, List.length_range, Str.length_append] <;> omega) | decide +kernel))
  | ((with_reducible refine' NQ.wo_addL ?z1 ?_); (case z1 => first | with_reducible assumption | omega | (simp only [List.length_cons, List.length_nil, List.length_append, List.length_map, NQ.rg_len, List.length_range, Str.length_append] <;> omega) | decide +kernel))
  | ((with_reducible refine' NQ.wo_addAl ?z1 ?_); (case z1 => first | with_reducible assumption | omega | (simp only [List.length_cons, List.length_nil, List.length_append, List.length_map, NQ.rg_len, List.length_range, Str.length_append] <;> omega) | decide +kernel))
  | ((with_reducible refine' NQ.wo_addU ?z1 ?_); (case z1 => first | with_reducible assumption | omega | (simp only [List.length_cons, List.length_nil, List.length_append, List.length_map, NQ.rg_len, List.length_range, Str.length_append] <;> omega) | decide +kernel))
  | ((with_reducible refine' NQ.wo_len_s ?z1 ?_); (case z1 => first | with_reducible assumption | omega | (simp only [List.length_cons, List.length_nil, List.length_append, List.length_map, NQ.rg_len, List.length_range, Str.length_append] <;> omega) | decide +kernel))
  | ((with_reducible refine' NQ.wo_list_s ?z1 ?_); (case z1 => first | with_reducible assumption | omega | (simp only [List.length_cons, List.length_nil, List.length_append, List.length_map, NQ.rg_len, List.length_range, Str.length_append] <;> omega) | decide +kernel))
  | ((with_reducible refine' NQ.wo_lst ?z1 ?_); (case z1 => first | with_reducible assumption | omega | (simp only [List.length_cons, List.length_nil, List.length_append, List.length_map, NQ.rg_len, List.length_range, Str.length_append] <;> omega) | decide +kernel))
  | ((with_reducible refine' NQ.wo_tup ?z1 ?_); (case z1 => first | with_reducible assumption | omega | (simp only [List.length_cons, List.length_nil, List.length_append, List.length_map, NQ.rg_len, List.length_range, Str.length_append] <;> omega) | decide +kernel))
  | ((with_reducible refine' NQ.wo_slS1 ?z1 ?_); (case z1 => first | with_reducible assumption | omega | (simp only [List.length_cons, List.length_nil, List.length_append, List.length_map, NQ.rg_len, List.length_range, Str.length_append] <;> omega) | decide +kernel))
  | ((with_reducible refine' NQ.wo_slS2 ?z1 ?_); (case z1 => first | with_reducible assumption | omega | (simp only [List.length_cons, List.length_nil, List.length_append, List.length_map, NQ.rg_len, List.length_range, Str.length_append] <;> omega) | decide +kernel))
  | ((with_reducible refine' NQ.wo_slS3 ?z1 ?_); (case z1 => first | with_reducible assumption | omega | (simp only [List.length_cons, List.length_nil, List.length_append, List.length_map, NQ.rg_len, List.length_range, Str.length_append] <;> omega) | decide +kernel))
  | ((with_reducible refine' NQ.wo_words ?z1 ?_); (case z1 => first | with_reducible assumption | omega | (simp only [List.length_cons, List.length_nil, List.length_append, List.length_map, NQ.rg_len, List.length_range, Str.length_append] <;> omega) | decide +kernel))
  | ((with_reducible refine' NQ.wo_strip ?z1 ?_); (case z1 => first | with_reducible assumption | omega | (simp only [List.length_cons, List.length_nil, List.length_append, List.length_map, NQ.rg_len, List.length_range, Str.length_append] <;> omega) | decide +kernel))
  | ((with_reducible refine' NQ.wo_muliR ?z1 ?z2 ?_); (case z1 => first | omega | with_reducible assumption | decide); (case z2 => first | omega | with_reducible assumption | decide))
  | ((with_reducible refine' NQ.wo_muliL ?z1 ?z2 ?_); (case z1 => first | omega | with_reducible assumption | decide); (case z2 => first | omega | with_reducible assumption | decide))
  | ((with_reducible refine' NQ.wo_mulAR ?z1 ?z2 ?_); (case z1 => first | omega | with_reducible assumption | decide); (case z2 => first | omega | with_reducible assumption | decide))
  | ((with_reducible refine' NQ.wo_mulAL ?z1 ?z2 ?_); (case z1 => first | omega | with_reducible assumption | decide); (case z2 => first | omega | with_reducible assumption | decide))
  | ((with_reducible refine' NQ.wo_muls ?z1 ?_); (case z1 => (refine ⟨?_, ?_, ?_⟩ <;> first | omega | decide | (exact Nat.le_of_ble_eq_true rfl) | (simp only [List.length_cons, List.length_nil, List.length_append, List.length_map, NQ.rg_len, List.length_range, Str.length_append] <;> omega) | with_reducible assumption)))
  | ((with_reducible refine' NQ.wo_mulL ?z1 ?_); (case z1 => (refine ⟨?_, ?_, ?_⟩ <;> first | omega | decide | (exact Nat.le_of_ble_eq_true rfl) | (simp only [List.length_cons, List.length_nil, List.length_append, List.length_map, NQ.rg_len, List.length_range, Str.length_append] <;> omega) | with_reducible assumption)))
  | ((with_reducible refine' NQ.wo_mulAl ?z1 ?_); (case z1 => (refine ⟨?_, ?_, ?_⟩ <;> first | omega | decide | (exact Nat.le_of_ble_eq_true rfl) | (simp only [List.length_cons, List.length_nil, List.length_append, List.length_map, NQ.rg_len, List.length_range, Str.length_append] <;> omega) | with_reducible assumption)))
  | ((with_reducible refine' NQ.wo_modi ?z1 ?_); (case z1 => first | omega | with_reducible assumption | decide))
  | ((with_reducible refine' NQ.wo_divi ?z1 ?z2 ?_); (case z1 => first | omega | with_reducible assumption | decide); (case z2 => first | omega | with_reducible assumption | decide))
  | ((with_reducible refine' NQ.wo_powi ?z1 ?z2 ?z3 ?z4 ?_); (case z1 => first | omega | with_reducible assumption | decide); (case z2 => first | omega | with_reducible assumption | decide); (case z3 => first | omega | with_reducible assumption | decide); (case z4 => first | omega | with_reducible assumption | decide))
  | ((with_reducible refine' NQ.wo_in ?z1 ?_); (case z1 => first | with_reducible assumption | exact NQ.memB_ch (by first | rfl | with_reducible assumption) | exact NQ.memB_c (by first | rfl | with_reducible assumption) | exact NQ.memB_l (by first | rfl | with_reducible assumption) (by first | rfl | with_reducible assumption) | exact NQ.memB_t (by first | rfl | with_reducible assumption) (by first | rfl | with_reducible assumption)))
  | ((with_reducible refine' NQ.wo_nin ?z1 ?_); (case z1 => first | with_reducible assumption | exact NQ.memB_ch (by first | rfl | with_reducible assumption) | exact NQ.memB_c (by first | rfl | with_reducible assumption) | exact NQ.memB_l (by first | rfl | with_reducible assumption) (by first | rfl | with_reducible assumption) | exact NQ.memB_t (by first | rfl | with_reducible assumption) (by first | rfl | with_reducible assumption)))
  | ((with_reducible refine' NQ.wo_disp ?z1 ?z2 ?z3 ?_); (case z1 => decide +kernel); (case z2 => exact rfl); (case z3 => decide))
  | ((with_reducible refine' NQ.wo_split ?z1 ?z2 ?_); (case z1 => first | exact rfl | with_reducible assumption | decide +kernel); (case z2 => first | with_reducible assumption | omega | (simp only [List.length_cons, List.length_nil, List.length_append, List.length_map, NQ.rg_len, List.length_range, Str.length_append] <;> omega) | decide +kernel))
  | ((with_reducible refine' NQ.wo_join ?z1 ?z2 ?_); (case z1 => first | with_reducible assumption | exact rfl); (case z2 => first | with_reducible assumption))
  | ((with_reducible refine' NQ.wo_ixR_l ?z1 ?z2 ?_); (case z1 => first | exact NQ.atI0 | exact NQ.atI1 | exact NQ.atI2 | exact NQ.atI3 | exact NQ.atI4 | with_reducible assumption); (case z2 => first | exact rfl | with_reducible assumption))
  | ((with_reducible refine' NQ.wo_ixR_t ?z1 ?z2 ?_); (case z1 => first | exact NQ.atI0 | exact NQ.atI1 | exact NQ.atI2 | exact NQ.atI3 | exact NQ.atI4 | with_reducible assumption); (case z2 => first | exact rfl | with_reducible assumption))
  | ((with_reducible refine' NQ.wo_ix_s ?z1 ?z2 ?_); (case z1 => with_reducible assumption); (case z2 => first | with_reducible assumption | omega | (simp only [List.length_cons, List.length_nil, List.length_append, List.length_map, NQ.rg_len, List.length_range, Str.length_append] <;> omega) | decide +kernel))
  | ((with_reducible refine' NQ.wo_isi ?z1 ?z2 ?_); (case z1 => first | with_reducible assumption | exact rfl); (case z2 => first | with_reducible assumption | exact rfl))
  | ((with_reducible refine' NQ.wo_ix_d ?z1 ?z2 ?_); (case z1 => exact rfl); (case z2 => with_reducible assumption)))
local macro_rules | `(tactic| walk_at "evrq") => `(tactic| first
  | with_reducible refine NQ.wq_ePq ?_
  | with_reducible refine NQ.wq_notV ?_
  | with_reducible refine NQ.wq_isX ?_
  | ((with_reducible refine' NQ.wq_eP ?z1 ?z2 ?_); (case z1 => exact rfl); (case z2 => exact rfl))
  | ((with_reducible refine' NQ.wq_eq ?z1 ?_); (case z1 => with_reducible assumption))
  | with_reducible refine NQ.wq_opq ?_
  | with_reducible refine NQ.wq_eC ?_
  | with_reducible refine NQ.wq_if ?_
  | with_reducible refine NQ.wq_andV ?_
  | with_reducible refine NQ.wq_orV ?_
  | with_reducible refine NQ.wq_ch ?_
  | ((with_reducible refine' NQ.wq_eV ?z1 ?_); (case z1 => exact rfl))
  | ((with_reducible refine NQ.g_wqo ?_); walk_at "evro"))
local macro_rules | `(tactic| walk_at "evrs") => `(tactic| first
  | with_reducible refine NQ.ws_seq ?_
  | with_reducible refine NQ.ws_next ?_
  | with_reducible refine NQ.ws_brk ?_
  | with_reducible refine NQ.ws_cont ?_
  | with_reducible refine NQ.ws_set ?_
  | with_reducible refine NQ.ws_drop ?_
  | with_reducible refine NQ.ws_ret ?_
  | with_reducible refine NQ.ws_retN ?_
  | with_reducible refine NQ.ws_if ?_
  | with_reducible refine NQ.ws_for ?_
  | with_reducible refine NQ.ws_asg ?_
  | with_reducible refine NQ.ws_raise ?_
  | with_reducible refine NQ.ws_match ?_
  | with_reducible refine NQ.ws_mNil ?_
  | with_reducible refine NQ.ws_mAny ?_
  | with_reducible refine NQ.ws_mCs ?_
  | with_reducible refine NQ.ws_mCg ?_
  | with_reducible refine NQ.ws_tryAs ?_
  | with_reducible refine NQ.ws_try ?_
  | with_reducible refine NQ.ws_par2 ?_
  | with_reducible refine NQ.ws_mov ?_
  | with_reducible refine NQ.ws_bor ?_
  | with_reducible refine NQ.ws_setO ?_
  | with_reducible refine NQ.ws_forK ?_
  | with_reducible refine NQ.ws_tryA ?_
  | with_reducible refine NQ.ws_hdN ?_
  | with_reducible refine NQ.ws_hd1 ?_
  | with_reducible refine NQ.ws_hdA ?_
  | with_reducible refine NQ.ws_setN ?_
  | with_reducible refine NQ.ws_setIx ?_
  | ((with_reducible refine' NQ.ws_retV ?z1 ?_); (case z1 => exact rfl))
  | ((with_reducible refine' NQ.ws_aug ?z1 ?_); (case z1 => exact rfl))
  | ((with_reducible refine' NQ.ws_frz ?z1 ?_); (case z1 => exact rfl))
  | with_reducible refine NQ.ws_fld ?_
  | with_reducible refine NQ.ws_afld ?_
  | with_reducible refine NQ.ws_putD ?_
  | with_reducible refine NQ.ws_setP ?_)
local macro_rules | `(tactic| walk_at "evre") => `(tactic| first
  | with_reducible refine NQ.we_srt ?_
  | with_reducible refine NQ.we_sp ?_
  | with_reducible refine NQ.we_notW ?_
  | with_reducible refine NQ.we_tupRg ?_
  | with_reducible refine NQ.we_lstRg ?_
  | with_reducible refine NQ.we_ch ?_
  | with_reducible refine NQ.we_makeK ?_
  | with_reducible refine NQ.we_cm ?_
  | with_reducible refine NQ.we_lstO ?_
  | with_reducible refine NQ.we_callT ?_
  | with_reducible refine NQ.we_app ?_
  | with_reducible refine NQ.we_appP ?_
  | with_reducible refine NQ.we_newK ?_
  | with_reducible refine NQ.we_newT ?_
  | with_reducible refine NQ.we_make ?_
  | with_reducible refine NQ.we_methF ?_
  | ((with_reducible refine' NQ.we_meth ?z1 ?z2 ?_); (case z1 => exact rfl); (case z2 => decide +kernel))
  | with_reducible refine NQ.we_qE ?_
  | with_reducible refine NQ.we_opn ?_
  | with_reducible refine NQ.we_opnc ?_
  | with_reducible refine NQ.we_disp ?_
  | with_reducible refine NQ.we_call ?_
  | with_reducible refine NQ.we_if ?_
  | with_reducible refine NQ.we_andW ?_
  | with_reducible refine NQ.we_orW ?_
  | with_reducible refine NQ.we_lc ?_)
local macro_rules | `(tactic| walk_at "evrt") => `(tactic| first
  | with_reducible refine NQ.wt_asB ?_
  | with_reducible refine NQ.wt_asTru ?_
  | with_reducible refine NQ.wt_not ?_
  | with_reducible refine NQ.wt_and ?_
  | with_reducible refine NQ.wt_or ?_
  | with_reducible refine NQ.wt_b ?_
  | with_reducible refine NQ.wt_i ?_
  | with_reducible refine NQ.wt_l ?_
  | with_reducible refine NQ.wt_n ?_
  | ((with_reducible refine' NQ.wt_s ?z1 ?_); (case z1 => first | with_reducible assumption | omega | (simp only [List.length_cons, List.length_nil, List.length_append, List.length_map, NQ.rg_len, List.length_range, Str.length_append] <;> omega) | decide +kernel)))
local macro_rules | `(tactic| walk_at "evr1") => `(tactic| first
  | ((with_reducible refine NQ.g_wq ?_); walk_at "evrq")
  | ((with_reducible refine NQ.g_ws ?_); walk_at "evrs")
  | ((with_reducible refine NQ.g_we ?_); walk_at "evre")
  | ((with_reducible refine NQ.g_wt ?_); walk_at "evrt")
  | ((with_reducible refine' NQ.nm_eq ?z1 ?_); (case z1 => (simp only [NQ.st0, NQ.stS, NQ.wp0, NQ.wpS, NQ.wb0, NQ.wbV, NQ.wbE, NQ.sk0, NQ.skV, NQ.skE, NQ.isO_fz, NQ.isO_vw, NQ.isO_all, NQ.isO_opt, NQ.isO_flds, NQ.isO_row, NQ.mp0, NQ.mpS, NQ.ap0, NQ.apS, NQ.rp0, NQ.rpS, if_true, if_false, Bool.false_eq_true] <;> exact rfl)))
  | with_reducible refine NQ.pw_nil ?_
  | with_reducible refine NQ.pw_fld ?_
  | with_reducible refine NQ.pw_ix ?_
  | with_reducible refine NQ.bk_mk ?_
  | with_reducible refine NQ.wi_en2 ?_
  | with_reducible refine NQ.wi_z ?_
  | with_reducible refine NQ.wo_nil ?_
  | with_reducible refine NQ.wo_new ?_
  | ((with_reducible refine' NQ.wo_mov ?z1 ?_); (case z1 => exact rfl))
  | with_reducible refine NQ.mkn ?_
  | ((with_reducible refine' NQ.mthF ?z1 ?_); (case z1 => first | with_reducible assumption | decide +kernel))
  | ((with_reducible refine' NQ.fp_here ?z1 ?z2 ?_); (case z1 => (show _ < 1000; decide)); (case z2 => exact rfl))
  | with_reducible refine NQ.wa_nil ?_
  | with_reducible refine NQ.wa_val ?_
  | with_reducible refine NQ.wl_nil ?_
  | with_reducible refine NQ.wl_cons ?_
  | with_reducible refine NQ.wb_asBE ?_
  | with_reducible refine NQ.wb_asTruE ?_
  | with_reducible refine NQ.wb_qB ?_
  | with_reducible refine NQ.wb_yes ?_
  | with_reducible refine NQ.wb_not ?_
  | with_reducible refine NQ.wb_and ?_
  | with_reducible refine NQ.wb_or ?_
  | with_reducible refine NQ.wd_gN ?_
  | with_reducible refine NQ.wd_nil ?_
  | with_reducible refine NQ.wd_cons ?_
  | with_reducible refine NQ.wi_it ?_
  | with_reducible refine NQ.wi_r1 ?_
  | with_reducible refine NQ.wi_r2 ?_
  | with_reducible refine NQ.wi_en ?_
  | ((with_reducible refine' NQ.wa_var ?z1 ?_); (case z1 => exact rfl))
  | ((with_reducible refine' NQ.wd_gT ?z1 ?_); (case z1 => exact rfl))
  | ((with_reducible refine' NQ.wf_eq ?z1 ?_); (case z1 => with_reducible assumption))
  | ((with_reducible refine' NQ.wf_eqX ?z1 ?_); (case z1 => with_reducible assumption))
  | with_reducible refine NQ.wtw_b ?_
  | with_reducible refine NQ.wtw_n ?_
  | with_reducible refine NQ.wtw_i ?_
  | with_reducible refine NQ.wtw_l ?_
  | ((with_reducible refine' NQ.ite_t ?z1 ?_); (case z1 => first | exact rfl | with_reducible assumption | exact decide_eq_true (by with_reducible assumption)))
  | ((with_reducible refine' NQ.ite_f ?z1 ?_); (case z1 => first | exact rfl | with_reducible assumption | exact decide_eq_false (by with_reducible assumption)))
  | with_reducible refine NQ.is_mk ?_
  | ((with_reducible refine' NQ.at_mk ?z1 ?_); (case z1 => exact rfl))
  | ((with_reducible refine' NQ.so_mk ?z1 ?_); (case z1 => first | with_reducible assumption | exact rfl))
  | ((with_reducible refine' NQ.s2_mk ?z1 ?_); (case z1 => first | with_reducible assumption))
  | ((with_reducible refine' NQ.so_mk (t := true) ?z1 ?_); (case z1 => decide +kernel))
  | ((with_reducible refine' NQ.so_mk (t := false) ?z1 ?_); (case z1 => decide +kernel))
  | ((with_reducible refine' NQ.sd_mk ?z1 ?_); (case z1 => first | exact rfl | with_reducible assumption | omega | exact NQ.insAt_c rfl rfl | exact NQ.insAt_c rfl (NQ.insAt_c rfl rfl) | exact ⟨_, _, rfl⟩ | (simp only [List.length_cons, List.length_nil, List.length_append, List.length_map, NQ.rg_len, List.length_range, NQ.sz_eq] <;> omega) | decide))
  | ((with_reducible refine' NQ.fn_mk ?z1 ?_); (case z1 => walk_at "fin"))
  | ((with_reducible refine' NQ.wf_fn ?_)))
local macro_rules | `(tactic| walk_at "evr") => `(tactic| repeat walk_at "evr1")
def top (i : Nat) : Stmt := PySem.Challenge.pw_nowlater_k03_conditions.main.body.getD i (.Pass ⟨0, 0, 0, 0⟩)
abbrev FnP (K : PySem.W.Frag) (x qual : Str) (st : Stmt) (f : Addr) (fd : FuncData) : Prop := FunD K x qual (defArgs st) (defBody st) (defScope st) [] [] f fd
structure Txt (K : PySem.W.Frag) (mg : Str → Option Value) : Prop where
  n_abs : mg "abs" = none
  n_all : mg "all" = none
  n_bool : mg "bool" = none
  n_enumerate : mg "enumerate" = none
  n_int : mg "int" = none
  n_isinstance : mg "isinstance" = none
  n_len : mg "len" = none
  n_list : mg "list" = none
  n_max : mg "max" = none
  n_min : mg "min" = none
  n_range : mg "range" = none
  n_str : mg "str" = none
  g_MOST_TERMS : GV mg "MOST_TERMS" (.int 5)
  g_SIGNS : GV mg "SIGNS" (.ref (He.ga K "SIGNS"))
  t_SIGNS : ∀ H : Hp, SqT K H (He.ga K "SIGNS") [.str (PySem.Str.ofString "="), .str (PySem.Str.ofString "!="), .str (PySem.Str.ofString "<"), .str (PySem.Str.ofString "<="), .str (PySem.Str.ofString ">"), .str (PySem.Str.ofString ">=")]
  g_BadCondition : GV mg "BadCondition" (.ref (He.ga K "BadCondition"))
  m_BadCondition : mg "BadCondition" = some (.ref (He.ga K "BadCondition"))
  g_Condition : GV mg "Condition" (.ref (He.ga K "Condition"))
  m_Condition : mg "Condition" = some (.ref (He.ga K "Condition"))
  g_Reader : GV mg "Reader" (.ref (He.ga K "Reader"))
  m_Reader : mg "Reader" = some (.ref (He.ga K "Reader"))
  c_Condition : Cls K (He.ga K "Condition")
  a_Condition_parts : NoAttr K (He.ga K "Condition") "parts"
  a_Condition_shown : NoAttr K (He.ga K "Condition") "shown"
  c_Reader : Cls K (He.ga K "Reader")
  a_Reader_tokens : NoAttr K (He.ga K "Reader") "tokens"
  a_Reader_names : NoAttr K (He.ga K "Reader") "names"
  a_Reader_handles : NoAttr K (He.ga K "Reader") "handles"
  a_Reader_requests : NoAttr K (He.ga K "Reader") "requests"
  a_Reader_at : NoAttr K (He.ga K "Reader") "at"
  nob : nobB K = true
abbrev s_law_seed : Stmt := (top 14)
theorem sc_law_seed : FnScope ["_law_script", "_law_at", "_law_cell", "_law_mixed", "_law_k", "_law_each"] ["_law_script", "_law_at"] (defScope s_law_seed) := ⟨rfl, rfl, rfl, by decide +kernel, rfl, by decide +kernel, by decide +kernel⟩
abbrev s_law_take : Stmt := (top 15)
theorem sc_law_take : FnScope ["_law_bag", "_law_many", "_law_digit"] ["_law_bag", "_law_many"] (defScope s_law_take) := ⟨rfl, rfl, rfl, by decide +kernel, rfl, by decide +kernel, by decide +kernel⟩
abbrev s_law_of : Stmt := (top 16)
theorem sc_law_of : FnScope ["_law_bag", "_law_some"] ["_law_bag", "_law_some"] (defScope s_law_of) := ⟨rfl, rfl, rfl, by decide +kernel, rfl, by decide +kernel, by decide +kernel⟩
abbrev s_is_number : Stmt := (top 6)
theorem sc_is_number : FnScope ["token", "char"] ["token"] (defScope s_is_number) := ⟨rfl, rfl, rfl, by decide +kernel, rfl, by decide +kernel, by decide +kernel⟩
abbrev s_read_sum : Stmt := (top 8)
theorem sc_read_sum : FnScope ["tokens", "start", "names", "terms", "factor", "at", "token"] ["tokens", "start", "names"] (defScope s_read_sum) := ⟨rfl, rfl, rfl, by decide +kernel, rfl, by decide +kernel, by decide +kernel⟩
abbrev s_law_names : Stmt := (top 17)
theorem sc_law_names : FnScope ["_law_bag", "_law_many", "_law_first", "_law_names_here", "_law_k", "_law_letters", "_law_turn"] ["_law_bag", "_law_many"] (defScope s_law_names) := ⟨rfl, rfl, rfl, by decide +kernel, rfl, by decide +kernel, by decide +kernel⟩
abbrev s_Reader_peek : Stmt := (inClass (top 9) 1)
theorem sc_Reader_peek : FnScope ["self"] ["self"] (defScope s_Reader_peek) := ⟨rfl, rfl, rfl, by decide +kernel, rfl, by decide +kernel, by decide +kernel⟩
abbrev s_Reader_take : Stmt := (inClass (top 9) 2)
theorem sc_Reader_take : FnScope ["self", "allowed", "token"] ["self", "allowed"] (defScope s_Reader_take) := ⟨rfl, rfl, rfl, by decide +kernel, rfl, by decide +kernel, by decide +kernel⟩
abbrev s_Reader_sum_terms : Stmt := (inClass (top 9) 6)
theorem sc_Reader_sum_terms : FnScope ["self", "terms", "stop"] ["self"] (defScope s_Reader_sum_terms) := ⟨rfl, rfl, rfl, by decide +kernel, rfl, by decide +kernel, by decide +kernel⟩
abbrev s_Reader_read_atom : Stmt := (inClass (top 9) 5)
theorem sc_Reader_read_atom : FnScope ["self", "wanted", "word", "left", "sign"] ["self"] (defScope s_Reader_read_atom) := ⟨rfl, rfl, rfl, by decide +kernel, rfl, by decide +kernel, by decide +kernel⟩
abbrev s_Reader_read_part : Stmt := (inClass (top 9) 4)
theorem sc_Reader_read_part : FnScope ["self", "atoms"] ["self"] (defScope s_Reader_read_part) := ⟨rfl, rfl, rfl, by decide +kernel, rfl, by decide +kernel, by decide +kernel⟩
abbrev s_Reader_read_condition : Stmt := (inClass (top 9) 3)
theorem sc_Reader_read_condition : FnScope ["self", "parts"] ["self"] (defScope s_Reader_read_condition) := ⟨rfl, rfl, rfl, by decide +kernel, rfl, by decide +kernel, by decide +kernel⟩
abbrev s_Reader___init__ : Stmt := (inClass (top 9) 0)
theorem sc_Reader___init__ : FnScope ["self", "tokens", "names", "handles", "requests"] ["self", "tokens", "names", "handles", "requests"] (defScope s_Reader___init__) := ⟨rfl, rfl, rfl, by decide +kernel, rfl, by decide +kernel, by decide +kernel⟩
abbrev s_Condition___init__ : Stmt := (inClass (top 10) 0)
theorem sc_Condition___init__ : FnScope ["self", "text", "names", "handles", "requests", "tokens", "reader"] ["self", "text", "names", "handles", "requests"] (defScope s_Condition___init__) := ⟨rfl, rfl, rfl, by decide +kernel, rfl, by decide +kernel, by decide +kernel⟩
abbrev s_compares : Stmt := (top 12)
theorem sc_compares : FnScope ["sign", "left", "right"] ["sign", "left", "right"] (defScope s_compares) := ⟨rfl, rfl, rfl, by decide +kernel, rfl, by decide +kernel, by decide +kernel⟩
abbrev s_sum_of : Stmt := (top 7)
theorem sc_sum_of : FnScope ["terms", "values", "total", "factor", "term"] ["terms", "values"] (defScope s_sum_of) := ⟨rfl, rfl, rfl, by decide +kernel, rfl, by decide +kernel, by decide +kernel⟩
abbrev s_atom_holds : Stmt := (top 11)
theorem sc_atom_holds : FnScope ["atom", "values", "handles", "opened", "wanted", "word", "left", "right", "found"] ["atom", "values", "handles", "opened"] (defScope s_atom_holds) := ⟨rfl, rfl, rfl, by decide +kernel, rfl, by decide +kernel, by decide +kernel⟩
abbrev s_Condition___call__ : Stmt := (inClass (top 10) 1)
theorem sc_Condition___call__ : FnScope ["self", "values", "handles", "opened", "atoms", "one"] ["self", "values", "handles", "opened"] (defScope s_Condition___call__) := ⟨rfl, rfl, rfl, by decide +kernel, rfl, by decide +kernel, by decide +kernel⟩
abbrev s_law_terms : Stmt := (top 18)
theorem sc_law_terms : FnScope ["_law_bag", "_law_names_here", "_law_many", "_law_terms_here", "_law_turn", "_law_thing"] ["_law_bag", "_law_names_here", "_law_many"] (defScope s_law_terms) := ⟨rfl, rfl, rfl, by decide +kernel, rfl, by decide +kernel, by decide +kernel⟩
abbrev s_law_sum_text : Stmt := (top 19)
theorem sc_law_sum_text : FnScope ["_law_terms_here", "_law_k", "_law_sign", "_law_thing"] ["_law_terms_here"] (defScope s_law_sum_text) := ⟨rfl, rfl, rfl, by decide +kernel, rfl, by decide +kernel, by decide +kernel⟩
abbrev s_law_atom : Stmt := (top 21)
theorem sc_law_atom : FnScope ["_law_bag", "_law_names_here", "_law_handles", "_law_requests", "_law_word", "_law_nots", "_law_sign"] ["_law_bag", "_law_names_here", "_law_handles", "_law_requests"] (defScope s_law_atom) := ⟨rfl, rfl, rfl, by decide +kernel, rfl, by decide +kernel, by decide +kernel⟩
abbrev s_law_condition : Stmt := (top 22)
theorem sc_law_condition : FnScope ["_law_bag", "_law_names_here", "_law_handles", "_law_requests", "_law_most", "_law_parts", "_law_turn", "_law_each"] ["_law_bag", "_law_names_here", "_law_handles", "_law_requests", "_law_most"] (defScope s_law_condition) := ⟨rfl, rfl, rfl, by decide +kernel, rfl, by decide +kernel, by decide +kernel⟩
abbrev s_law_atom_text : Stmt := (top 23)
theorem sc_law_atom_text : FnScope ["_law_atom_here", "_law_nots", "_law_word", "_law_left", "_law_right"] ["_law_atom_here"] (defScope s_law_atom_text) := ⟨rfl, rfl, rfl, by decide +kernel, rfl, by decide +kernel, by decide +kernel⟩
abbrev s_law_condition_text : Stmt := (top 24)
theorem sc_law_condition_text : FnScope ["_law_parts", "_law_part", "_law_atom_here"] ["_law_parts"] (defScope s_law_condition_text) := ⟨rfl, rfl, rfl, by decide +kernel, rfl, by decide +kernel, by decide +kernel⟩
abbrev s_law_value : Stmt := (top 20)
theorem sc_law_value : FnScope ["_law_terms_here", "_law_values", "_law_total", "_law_sign", "_law_thing", "_law_each"] ["_law_terms_here", "_law_values"] (defScope s_law_value) := ⟨rfl, rfl, rfl, by decide +kernel, rfl, by decide +kernel, by decide +kernel⟩
abbrev s_law_compared : Stmt := (top 25)
theorem sc_law_compared : FnScope ["_law_sign", "_law_left", "_law_right", "_law_due"] ["_law_sign", "_law_left", "_law_right"] (defScope s_law_compared) := ⟨rfl, rfl, rfl, by decide +kernel, rfl, by decide +kernel, by decide +kernel⟩
abbrev s_law_atom_holds : Stmt := (top 26)
theorem sc_law_atom_holds : FnScope ["_law_atom_here", "_law_values", "_law_handles", "_law_opened", "_law_nots", "_law_word", "_law_left", "_law_right", "_law_found"] ["_law_atom_here", "_law_values", "_law_handles", "_law_opened"] (defScope s_law_atom_holds) := ⟨rfl, rfl, rfl, by decide +kernel, rfl, by decide +kernel, by decide +kernel⟩
abbrev s_law_holds : Stmt := (top 27)
theorem sc_law_holds : FnScope ["_law_parts", "_law_values", "_law_handles", "_law_opened", "_law_part", "_law_atom_here"] ["_law_parts", "_law_values", "_law_handles", "_law_opened"] (defScope s_law_holds) := ⟨rfl, rfl, rfl, by decide +kernel, rfl, by decide +kernel, by decide +kernel⟩
abbrev s_Condition___str__ : Stmt := (inClass (top 10) 2)
theorem sc_Condition___str__ : FnScope ["self"] ["self"] (defScope s_Condition___str__) := ⟨rfl, rfl, rfl, by decide +kernel, rfl, by decide +kernel, by decide +kernel⟩
abbrev s_law : Stmt := (top 28)
theorem sc_law : FnScope ["_law_script", "_law_at", "_law_bag", "_law_words", "_law_names_here", "_law_handles", "_law_requests", "_law_parts", "_law_text", "_law_blanks", "_law_lists", "_law_condition_here", "_law_turn", "_law_size", "_law_values", "_law_stored", "_law_name", "_law_each", "_law_opened", "_law_kept", "_law_handed", "_law_told"] ["_law_script"] (defScope s_law) := ⟨rfl, rfl, rfl, by decide +kernel, rfl, by decide +kernel, by decide +kernel⟩
abbrev s_BadCondition___init__ : Stmt := (inClass (top 2) 0)
theorem sc_BadCondition___init__ : FnScope ["self", "at"] ["self", "at"] (defScope s_BadCondition___init__) := ⟨rfl, rfl, rfl, by decide +kernel, rfl, by decide +kernel, by decide +kernel⟩
def fxs : List Fx := [.fa (.glo "BadCondition"),
  .fa (.glo "Condition"),
  .fa (.int "MOST_TERMS" 5),
  .fa (.glo "Reader"),
  .fa (.glo "SIGNS"),
  .tup "SIGNS" [.str "=", .str "!=", .str "<", .str "<=", .str ">", .str ">="],
  .fa (.glo "_law_atom"),
  .fa (.glo "_law_atom_holds"),
  .fa (.glo "_law_atom_text"),
  .fa (.glo "_law_compared"),
  .fa (.glo "_law_condition"),
  .fa (.glo "_law_condition_text"),
  .fa (.glo "_law_holds"),
  .fa (.glo "_law_names"),
  .fa (.glo "_law_of"),
  .fa (.glo "_law_seed"),
  .fa (.glo "_law_sum_text"),
  .fa (.glo "_law_take"),
  .fa (.glo "_law_terms"),
  .fa (.glo "_law_value"),
  .fa (.free "abs"),
  .fa (.free "all"),
  .fa (.glo "atom_holds"),
  .fa (.free "bool"),
  .fa (.glo "compares"),
  .fa (.free "enumerate"),
  .fa (.free "int"),
  .fa (.glo "is_number"),
  .fa (.free "isinstance"),
  .fa (.free "len"),
  .fa (.free "list"),
  .fa (.free "max"),
  .fa (.free "min"),
  .fa (.free "range"),
  .fa (.glo "read_sum"),
  .fa (.free "str"),
  .fa (.glo "sum_of"),
  .oex "BadCondition",
  .fnI "BadCondition",
  .fa (.noat "BadCondition" "at"),
  .fa (.cls "Reader"),
  .fa (.mkr "Reader"),
  .fa (.noat "Reader" "tokens"),
  .fa (.noat "Reader" "names"),
  .fa (.noat "Reader" "handles"),
  .fa (.noat "Reader" "requests"),
  .fa (.noat "Reader" "at"),
  .fa (.cls "Condition"),
  .fa (.mkr "Condition"),
  .fa (.noat "Condition" "parts"),
  .fa (.noat "Condition" "shown"),
  .fa (.meth "Reader" "peek"),
  .fnF "Reader" "peek",
  .fa (.meth "Reader" "take"),
  .fnF "Reader" "take",
  .fa (.meth "Reader" "sum_terms"),
  .fnF "Reader" "sum_terms",
  .fa (.meth "Reader" "read_atom"),
  .fnF "Reader" "read_atom",
  .fa (.meth "Reader" "read_part"),
  .fnF "Reader" "read_part",
  .fa (.meth "Reader" "read_condition"),
  .fnF "Reader" "read_condition",
  .fa (.meth "Condition" "__call__"),
  .fnF "Condition" "__call__",
  .fa (.meth "Condition" "__str__"),
  .fnF "Condition" "__str__",
  .fa (.glo "law")]
def fys : List Fy := []
def fzs : List Fz := []
def d_BadCondition___init__ : He5.DefA := ⟨fun K => He.ma K (He.ga K "BadCondition") "__init__", "__init__", "BadCondition.__init__", defArgs s_BadCondition___init__, defBody s_BadCondition___init__, defScope s_BadCondition___init__, [], []⟩
def d_law_seed : He5.DefA := ⟨fun K => He.ga K "_law_seed", "_law_seed", "_law_seed", defArgs s_law_seed, defBody s_law_seed, defScope s_law_seed, [], []⟩
def d_law_take : He5.DefA := ⟨fun K => He.ga K "_law_take", "_law_take", "_law_take", defArgs s_law_take, defBody s_law_take, defScope s_law_take, [], []⟩
def d_law_of : He5.DefA := ⟨fun K => He.ga K "_law_of", "_law_of", "_law_of", defArgs s_law_of, defBody s_law_of, defScope s_law_of, [], []⟩
def d_is_number : He5.DefA := ⟨fun K => He.ga K "is_number", "is_number", "is_number", defArgs s_is_number, defBody s_is_number, defScope s_is_number, [], []⟩
def d_read_sum : He5.DefA := ⟨fun K => He.ga K "read_sum", "read_sum", "read_sum", defArgs s_read_sum, defBody s_read_sum, defScope s_read_sum, [], []⟩
def d_law_names : He5.DefA := ⟨fun K => He.ga K "_law_names", "_law_names", "_law_names", defArgs s_law_names, defBody s_law_names, defScope s_law_names, [], []⟩
def d_Reader_peek : He5.DefA := ⟨fun K => He.ma K (He.ga K "Reader") "peek", "peek", "Reader.peek", defArgs s_Reader_peek, defBody s_Reader_peek, defScope s_Reader_peek, [], []⟩
def d_Reader_take : He5.DefA := ⟨fun K => He.ma K (He.ga K "Reader") "take", "take", "Reader.take", defArgs s_Reader_take, defBody s_Reader_take, defScope s_Reader_take, [], []⟩
def d_Reader_sum_terms : He5.DefA := ⟨fun K => He.ma K (He.ga K "Reader") "sum_terms", "sum_terms", "Reader.sum_terms", defArgs s_Reader_sum_terms, defBody s_Reader_sum_terms, defScope s_Reader_sum_terms, [], []⟩
def d_Reader_read_atom : He5.DefA := ⟨fun K => He.ma K (He.ga K "Reader") "read_atom", "read_atom", "Reader.read_atom", defArgs s_Reader_read_atom, defBody s_Reader_read_atom, defScope s_Reader_read_atom, [], []⟩
def d_Reader_read_part : He5.DefA := ⟨fun K => He.ma K (He.ga K "Reader") "read_part", "read_part", "Reader.read_part", defArgs s_Reader_read_part, defBody s_Reader_read_part, defScope s_Reader_read_part, [], []⟩
def d_Reader_read_condition : He5.DefA := ⟨fun K => He.ma K (He.ga K "Reader") "read_condition", "read_condition", "Reader.read_condition", defArgs s_Reader_read_condition, defBody s_Reader_read_condition, defScope s_Reader_read_condition, [], []⟩
def d_Reader___init__ : He5.DefA := ⟨fun K => He.ma K (He.ga K "Reader") "__init__", "__init__", "Reader.__init__", defArgs s_Reader___init__, defBody s_Reader___init__, defScope s_Reader___init__, [], []⟩
def d_Condition___init__ : He5.DefA := ⟨fun K => He.ma K (He.ga K "Condition") "__init__", "__init__", "Condition.__init__", defArgs s_Condition___init__, defBody s_Condition___init__, defScope s_Condition___init__, [], []⟩
def d_compares : He5.DefA := ⟨fun K => He.ga K "compares", "compares", "compares", defArgs s_compares, defBody s_compares, defScope s_compares, [], []⟩
def d_sum_of : He5.DefA := ⟨fun K => He.ga K "sum_of", "sum_of", "sum_of", defArgs s_sum_of, defBody s_sum_of, defScope s_sum_of, [], []⟩
def d_atom_holds : He5.DefA := ⟨fun K => He.ga K "atom_holds", "atom_holds", "atom_holds", defArgs s_atom_holds, defBody s_atom_holds, defScope s_atom_holds, [], []⟩
def d_Condition___call__ : He5.DefA := ⟨fun K => He.ma K (He.ga K "Condition") "__call__", "__call__", "Condition.__call__", defArgs s_Condition___call__, defBody s_Condition___call__, defScope s_Condition___call__, [], []⟩
def d_law_terms : He5.DefA := ⟨fun K => He.ga K "_law_terms", "_law_terms", "_law_terms", defArgs s_law_terms, defBody s_law_terms, defScope s_law_terms, [], []⟩
def d_law_sum_text : He5.DefA := ⟨fun K => He.ga K "_law_sum_text", "_law_sum_text", "_law_sum_text", defArgs s_law_sum_text, defBody s_law_sum_text, defScope s_law_sum_text, [], []⟩
def d_law_atom : He5.DefA := ⟨fun K => He.ga K "_law_atom", "_law_atom", "_law_atom", defArgs s_law_atom, defBody s_law_atom, defScope s_law_atom, [], []⟩
def d_law_condition : He5.DefA := ⟨fun K => He.ga K "_law_condition", "_law_condition", "_law_condition", defArgs s_law_condition, defBody s_law_condition, defScope s_law_condition, [], []⟩
def d_law_atom_text : He5.DefA := ⟨fun K => He.ga K "_law_atom_text", "_law_atom_text", "_law_atom_text", defArgs s_law_atom_text, defBody s_law_atom_text, defScope s_law_atom_text, [], []⟩
def d_law_condition_text : He5.DefA := ⟨fun K => He.ga K "_law_condition_text", "_law_condition_text", "_law_condition_text", defArgs s_law_condition_text, defBody s_law_condition_text, defScope s_law_condition_text, [], []⟩
def d_law_value : He5.DefA := ⟨fun K => He.ga K "_law_value", "_law_value", "_law_value", defArgs s_law_value, defBody s_law_value, defScope s_law_value, [], []⟩
def d_law_compared : He5.DefA := ⟨fun K => He.ga K "_law_compared", "_law_compared", "_law_compared", defArgs s_law_compared, defBody s_law_compared, defScope s_law_compared, [], []⟩
def d_law_atom_holds : He5.DefA := ⟨fun K => He.ga K "_law_atom_holds", "_law_atom_holds", "_law_atom_holds", defArgs s_law_atom_holds, defBody s_law_atom_holds, defScope s_law_atom_holds, [], []⟩
def d_law_holds : He5.DefA := ⟨fun K => He.ga K "_law_holds", "_law_holds", "_law_holds", defArgs s_law_holds, defBody s_law_holds, defScope s_law_holds, [], []⟩
def d_Condition___str__ : He5.DefA := ⟨fun K => He.ma K (He.ga K "Condition") "__str__", "__str__", "Condition.__str__", defArgs s_Condition___str__, defBody s_Condition___str__, defScope s_Condition___str__, [], []⟩
def d_law : He5.DefA := ⟨fun K => He.ga K "law", "law", "law", defArgs s_law, defBody s_law, defScope s_law, [], []⟩
def fns : List He5.DefA := [d_BadCondition___init__, d_law_seed, d_law_take, d_law_of, d_is_number, d_read_sum, d_law_names, d_Reader_peek, d_Reader_take, d_Reader_sum_terms, d_Reader_read_atom, d_Reader_read_part, d_Reader_read_condition, d_Reader___init__, d_Condition___init__, d_compares, d_sum_of, d_atom_holds, d_Condition___call__, d_law_terms, d_law_sum_text, d_law_atom, d_law_condition, d_law_atom_text, d_law_condition_text, d_law_value, d_law_compared, d_law_atom_holds, d_law_holds, d_Condition___str__, d_law]
abbrev RR : PySem.W.OpenRow := PySem.W.OpenLaw.row PySem.Challenge.rw_nowlater_k03_conditions
def ex (K : PySem.W.Frag) : Bool := (fxB fxs K && (fyB fys K && fzB fzs K)) && (nobB K)
def ad0 : List Addr := [3, 6, 4, 24, 44, 47, 54, 61, 68, 125, 158, 169, 174, 181, 188, 195, 200, 207, 212, 219, 226, 231, 238, 243, 250]
def ad1 : List Addr := [257, 262, 267, 0, 23, 43, 53, 60, 67, 124, 157, 168, 173, 180, 187, 194, 199, 206, 211, 218, 225, 230, 237, 242, 249]
def ad2 : List Addr := [256, 261, 266, 22, 25, 41, 42, 48, 49, 50, 51, 52, 55, 56, 57, 58, 59, 62, 63, 64, 65, 66, 82, 89, 96]
def ad3 : List Addr := [103, 110, 115, 122, 123, 126, 127, 143, 148, 155, 156, 159, 160, 163, 164, 165, 166, 167, 170, 171, 172, 175, 176, 177, 178]
def ad4 : List Addr := [179, 182, 183, 184, 185, 186, 189, 190, 191, 192, 193, 196, 197, 198, 201, 202, 203, 204, 205, 208, 209, 210, 213, 214, 215]
def ad5 : List Addr := [216, 217, 220, 221, 222, 223, 224, 227, 228, 229, 232, 233, 234, 235, 236, 239, 240, 241, 244, 245, 246, 247, 248, 251, 252]
def ad6 : List Addr := [253, 254, 255, 258, 259, 260, 263, 264, 265, 40, 81, 88, 95, 102, 109, 114, 121, 142, 147, 154, 35, 36, 37, 38, 39]
def ad7 : List Addr := [76, 77, 78, 79, 80, 83, 84, 85, 86, 87, 90, 91, 92, 93, 94, 97, 98, 99, 100, 101, 104, 105, 106, 107, 108]
def ad8 : List Addr := [111, 112, 113, 116, 117, 118, 119, 120, 137, 138, 139, 140, 141, 144, 145, 146, 149, 150, 151, 152, 153, 2]
/-- the addresses that the names of the program reach -/
def asL : List Addr := PySem.cStatics :: (ad0 ++ (ad1 ++ (ad2 ++ (ad3 ++ (ad4 ++ (ad5 ++ (ad6 ++ (ad7 ++ (ad8)))))))))
def obsL (as : List Addr) (fn : List He5.DefA) (ex : PySem.W.Frag → Bool) (g : Addr → Option Obj) : He.AlD := obsN0 fn ex (He.frT g as)
def hookL (as : List Addr) (fn : List He5.DefA) (ex : PySem.W.Frag → Bool) : PySem.W.Hook where
  α := He.AlD
  obs := fun s => obsL as fn ex s.heap.get?
  val := fun _ => He5.valA fn
  says := fun _ h => ∃ K : PySem.W.Frag, K.In h ∧ SaysN fn ex K
  of := fun _ _ e => ⟨_, He.frT_in, e⟩
  keeps := fun _ _ _ ⟨K, hK, c⟩ k => ⟨K, PySem.W.Frag.In.keeps hK k, c⟩
theorem obsL_eq {as : List Addr} {fn : List He5.DefA} {ex : PySem.W.Frag → Bool} {g : Addr → Option Obj} {s : Shared} (h : ∀ a, g a = s.heap.get? a) : obsL as fn ex g = (hookL as fn ex).obs s := by
  have e : g = s.heap.get? := funext h
  rw [e] <;> rfl
abbrev hk : PySem.W.Hook := hookL asL fns ex
def obH (s : PySem.W.SharedT) : He.AlD := obsL asL fns ex (HandSHeadRun.getT s)
theorem obH_eq (s : PySem.W.SharedT) : obH s = hk.obs s.abs := obsL_eq (HandSHeadRun.getT_eq s)
def loose0 : List PySem.Str := ["NowlaterError", "BadCondition", "SIGNS", "MOST_TERMS", "is_number", "sum_of", "read_sum", "Reader", "Condition", "atom_holds", "compares", "_law_seed", "_law_take", "_law_of", "_law_names", "_law_terms", "_law_sum_text", "_law_value", "_law_atom", "_law_condition"]
def loose1 : List PySem.Str := ["_law_atom_text", "_law_condition_text", "_law_compared", "_law_atom_holds", "_law_holds"]
abbrev loose : List PySem.Str := loose0 ++ loose1
noncomputable abbrev endS (w : World) (os : OsState) : Option PySem.W.SharedT := HandSHeadRun.endF (HandSHeadRun.stepQ (HandSHeadRun.denQ HandSHeadRun.tabQ) RR.prog w) 12000 RR.prog w os
abbrev vwS : PySem.Program := PySem.W.view RR.prog [28]
abbrev frS (s : PySem.W.SharedT) : PySem.W.Frag := He.frT (HandSHeadRun.getT s) asL
theorem run1 (w : World) (os : OsState) : (endS w os).map (fun s => HandSHeadRun.looksF RR.prog (PySem.W.boot_heap w.params) s.abs) = some true := by kernel_rfl
theorem run2 (w : World) (os : OsState) : (endS w os).map (fun s => HandSHeadRun.seenQ vwS loose (PySem.importedModules RR.prog.main.body) (fun s => PySem.W.xlAt vwS [] s && PySem.W.recOk RR.records s) s.abs) = some (PySem.W.openGood vwS loose) := by kernel_rfl
theorem run3 (w : World) (os : OsState) : (endS w os).map (fun s => (fxB fxs (frS s) && (fyB fys (frS s) && fzB fzs (frS s))) && (nobB (frS s))) = some true := by kernel_rfl
theorem run4 (w : World) (os : OsState) : (endS w os).map (fun s => (fns.all fun d => d.ok (frS s), fns.map fun d => He5.fnA (frS s) (d.at_ (frS s)))) = some (true, fns.map He5.DefA.val) := by kernel_rfl
theorem run (w : World) : HandSHeadRun.RunEq RR vwS hk obH 12000 loose w := by
  intro os
  have h1 := run1 w os
  have h2 := run2 w os
  have h3 := run3 w os
  have h4 := run4 w os
  show (endS w os).map (fun s => (HandSHeadRun.looksF RR.prog (PySem.W.boot_heap w.params) s.abs, HandSHeadRun.seenQ vwS loose (PySem.importedModules RR.prog.main.body) (fun s => PySem.W.xlAt vwS [] s && PySem.W.recOk RR.records s) s.abs, obH s)) = some (true, PySem.W.openGood vwS loose, He5.valA fns)
  generalize endS w os = e at h1 h2 h3 h4 ⊢
  cases e with
  | none => cases h1
  | some s =>
    have k1 := Option.some.inj h1
    have k2 := Option.some.inj h2
    have ke : ex (frS s) = true := Option.some.inj h3
    have k4 := Prod.mk.inj (Option.some.inj h4)
    clear h1 h2 h3 h4
    have ko : obH s = He5.valA fns := by
      show (ex (frS s) && fns.all (fun d => d.ok (frS s)), fns.map (fun d => He5.fnA (frS s) (d.at_ (frS s)))) = (true, fns.map He5.DefA.val)
      rw [ke, k4.1, k4.2]; rfl
    exact congrArg some (Prod.ext k1 (Prod.ext k2 ko))
section
open PySem PySem.W PySem.Calls PyProof.Rows
set_option maxHeartbeats 0 in
theorem early (hc : PySem.W.WalkO (view NL.RR.prog [28]) NL.loose (PySem.W.XL (view NL.RR.prog [28]) []) NL.hk.says NL.RR.toRowW (HandSHeadRun.topDef NL.RR.prog 28) [] (fun f vs => PySem.call f vs)) : PySem.Challenge.rw_nowlater_k03_conditions.Holds := by
  w_on; o_law
  refine HandSHeadRun.head_any (r := NL.RR) (q := view NL.RR.prog [28]) (H := NL.hk) (ob := NL.obH) (M := 12000) (loose := NL.loose) (d := HandSHeadRun.topDef NL.RR.prog 28) (kwd := []) NL.obH_eq
    (by kernel_rfl) (fun s => by kernel_rfl) NL.run (by kernel_rfl) (by kernel_rfl) (by kernel_rfl) (by rfl) (by first | assumption | decide +kernel) (by decide +kernel) ⟨rfl, rfl, rfl, rfl, rfl, by decide +kernel⟩ ?hw ?hc
  case hw => w_witness2
  case hc => exact hc
end

/-- a token: signs from ! to ~, at least one -/
def Tk (t : Str) : Prop := t.cps.toList ≠ [] ∧ ∀ c ∈ t.cps.toList, 33 ≤ c ∧ c ≤ 126
def Bl (s : Str) : Prop := ∀ c ∈ s.cps.toList, c = 32
theorem sp_no : ∀ c : Nat, c ≤ 126 → 33 ≤ c → Unicode.isSpace c = false := by decide +kernel
theorem sp_yes : Unicode.isSpace 32 = true := by decide +kernel
theorem str_eq {a b : Str} (h : a.cps.toList = b.cps.toList) : a = b := Str.ext' (Array.toList_inj.mp h)
theorem scan_tok : ∀ (l : List Nat) (ws : List Str) (r : Str), (∀ c ∈ l, 33 ≤ c ∧ c ≤ 126) → l.foldl KWd.step (ws, r) = (ws, r ++ ⟨l.toArray⟩)
  | [], ws, r, _ => by
    have e : r ++ (⟨#[]⟩ : Str) = r := str_eq (by rw [Str.cps_append]; simp)
    show (ws, r) = (ws, r ++ ⟨#[]⟩)
    rw [e]
  | c :: l, ws, r, h => by
    have hc := h c (List.mem_cons_self ..)
    rw [List.foldl_cons]
    have e : KWd.step (ws, r) c = (ws, r ++ ⟨#[c]⟩) := by
      unfold KWd.step
      rw [if_neg (by rw [sp_no c hc.2 hc.1]; exact Bool.false_ne_true)]
    rw [e, scan_tok l ws _ fun d hd => h d (List.mem_cons_of_mem _ hd)]
    have e2 : r ++ (⟨#[c]⟩ : Str) ++ (⟨l.toArray⟩ : Str) = r ++ (⟨(c :: l).toArray⟩ : Str) := str_eq (by simp [Str.cps_append])
    rw [e2]
theorem scan_bl0 : ∀ (l : List Nat) (ws : List Str), (∀ c ∈ l, c = 32) → l.foldl KWd.step (ws, Str.empty) = (ws, Str.empty)
  | [], ws, _ => rfl
  | c :: l, ws, h => by
    have hc := h c (List.mem_cons_self ..)
    subst hc
    rw [List.foldl_cons]
    have e : KWd.step (ws, Str.empty) 32 = (ws, Str.empty) := by
      unfold KWd.step
      rw [if_pos sp_yes]
      rfl
    rw [e]
    exact scan_bl0 l ws fun d hd => h d (List.mem_cons_of_mem _ hd)
theorem scan_bl1 (l : List Nat) (ws : List Str) (r : Str) (h : ∀ c ∈ l, c = 32) (h0 : l ≠ []) (hr : r.length ≠ 0) : l.foldl KWd.step (ws, r) = (ws ++ [r], Str.empty) := by
  cases l with
  | nil => exact absurd rfl h0
  | cons c l =>
    have hc := h c (List.mem_cons_self ..)
    subst hc
    rw [List.foldl_cons]
    have e : KWd.step (ws, r) 32 = (ws ++ [r], Str.empty) := by
      unfold KWd.step
      rw [if_pos sp_yes, if_neg hr]
    rw [e]
    exact scan_bl0 l _ fun d hd => h d (List.mem_cons_of_mem _ hd)
theorem tk_len {t : Str} (h : Tk t) : t.length ≠ 0 := by
  intro z
  apply h.1
  have : t.cps.size = 0 := z
  simpa using this
theorem empty_app (t : Str) : Str.empty ++ t = t := str_eq (by rw [Str.cps_append]; simp [Str.empty])
theorem join_cons2 (sep x y : Str) (r : List Str) : Str.join sep (x :: y :: r) = x ++ sep ++ Str.join sep (y :: r) := rfl
theorem scan_join (sep tail : Str) (hs : Bl sep) (hs0 : sep.cps.toList ≠ []) (ht : Bl tail) : ∀ (toks ws : List Str), (∀ t ∈ toks, Tk t) → KWd.fin ((Str.join sep toks ++ tail).cps.toList.foldl KWd.step (ws, Str.empty)) = ws ++ toks
  | [], ws, _ => by
    have e : (Str.join sep [] ++ tail).cps.toList = tail.cps.toList := by
      rw [show Str.join sep [] = Str.empty from rfl, empty_app]
    rw [e, scan_bl0 _ ws ht]
    show (if Str.empty.length = 0 then ws else _) = _
    rw [if_pos (show Str.empty.length = 0 from rfl), List.append_nil]
  | [x], ws, h => by
    have hx := h x (List.mem_cons_self ..)
    rw [show Str.join sep [x] = x from rfl, Str.cps_append, Array.toList_append, List.foldl_append, scan_tok _ ws _ hx.2]
    have e : Str.empty ++ (⟨x.cps.toList.toArray⟩ : Str) = x := by rw [empty_app]
    rw [e]
    by_cases h0 : tail.cps.toList = []
    · rw [h0]
      show (if x.length = 0 then ws else ws ++ [x]) = _
      rw [if_neg (tk_len hx)]
    · rw [scan_bl1 _ ws x ht h0 (tk_len hx)]
      show (if Str.empty.length = 0 then _ else _) = _
      rw [if_pos (show Str.empty.length = 0 from rfl)]
  | x :: y :: r, ws, h => by
    have hx := h x (List.mem_cons_self ..)
    rw [join_cons2]
    have e1 : (x ++ sep ++ Str.join sep (y :: r) ++ tail).cps.toList = x.cps.toList ++ (sep.cps.toList ++ (Str.join sep (y :: r) ++ tail).cps.toList) := by
      simp [Str.cps_append]
    rw [e1, List.foldl_append, scan_tok _ ws _ hx.2, List.foldl_append]
    have e : Str.empty ++ (⟨x.cps.toList.toArray⟩ : Str) = x := by rw [empty_app]
    rw [e, scan_bl1 _ ws x hs hs0 (tk_len hx), scan_join sep tail hs hs0 ht (y :: r) (ws ++ [x]) fun t ht' => h t (List.mem_cons_of_mem _ ht')]
    simp
theorem words_join {head sep tail : Str} {toks : List Str} (hh : Bl head) (hs : Bl sep) (hs0 : sep.cps.toList ≠ []) (ht : Bl tail) (h : ∀ t ∈ toks, Tk t) : Txt.words (head ++ (Str.join sep toks ++ tail)) = toks := by
  rw [KWd.words_scan]
  unfold KWd.scan
  rw [Str.cps_append, Array.toList_append, List.foldl_append, scan_bl0 _ [] hh, scan_join sep tail hs hs0 ht toks [] h, List.nil_append]
theorem words_join0 {sep tail : Str} {toks : List Str} (hs : Bl sep) (hs0 : sep.cps.toList ≠ []) (ht : Bl tail) (h : ∀ t ∈ toks, Tk t) : Txt.words (Str.join sep toks ++ tail) = toks := by
  have := words_join (head := Str.empty) (by intro c hc; simp [Str.empty] at hc) hs hs0 ht h
  rwa [empty_app] at this
theorem join_len_le (sep : Str) (B : Nat) : ∀ (toks : List Str), (∀ t ∈ toks, t.length ≤ B) → (Str.join sep toks).length ≤ toks.length * (B + sep.length)
  | [], _ => by show 0 ≤ _; omega
  | [x], h => by
    have := h x (List.mem_cons_self ..)
    show x.length ≤ 1 * _
    omega
  | x :: y :: r, h => by
    have h1 := h x (List.mem_cons_self ..)
    have h2 := join_len_le sep B (y :: r) fun t ht => h t (List.mem_cons_of_mem _ ht)
    rw [join_cons2, Str.length_append, Str.length_append]
    have e : (x :: y :: r).length * (B + sep.length) = (y :: r).length * (B + sep.length) + (B + sep.length) := by
      rw [List.length_cons, Nat.add_mul, Nat.one_mul]
    omega
theorem sum_len_le {B : Nat} : ∀ {toks : List Str}, (∀ t ∈ toks, t.length ≤ B) → (toks.map (·.length)).sum ≤ toks.length * B
  | [], _ => by simp
  | x :: r, h => by
    have h1 := h x (List.mem_cons_self ..)
    have h2 := sum_len_le (toks := r) fun t ht => h t (List.mem_cons_of_mem _ ht)
    simp only [List.map_cons, List.sum_cons, List.length_cons, Nat.add_mul, Nat.one_mul]
    omega


theorem atI_mem {xs : List V} {i : Int} (h0 : 0 ≤ i) (h1 : i < xs.length) : ∃ v ∈ xs, atI xs i = some v := by
  have hl : i.toNat < xs.length := by omega
  refine ⟨xs[i.toNat], List.getElem_mem hl, ?_⟩
  unfold atI ixN
  rw [if_pos h0, if_pos h1, Option.bind_some, List.getElem?_eq_getElem hl]
theorem atI_int {ns : List Int} {i : Int} (h0 : 0 ≤ i) (h1 : i < (ns.map V.int).length) : ∃ n : Int, atI (ns.map V.int) i = some (.int n) := by
  obtain ⟨v, hv, e⟩ := atI_mem h0 h1
  obtain ⟨n, _, rfl⟩ := List.mem_map.mp hv
  exact ⟨n, e⟩
theorem cutV_mem {xs : List V} {lo hi : Option Int} {v : V} (h : v ∈ cutV xs lo hi) : v ∈ xs := List.mem_of_mem_drop (List.mem_of_mem_take h)
theorem log2_small {n : Nat} (h : n < 2 ^ 9000) (h0 : 0 < n) : n.log2 < 9000 := (Nat.log2_lt (by omega)).mpr h

def sp_law_seed (K : PySem.W.Frag) : Sp := fun vs H Q _ => ∃ (a : Addr) (ns : List Int) (n : Int), vs = [.ref a, .int n] ∧ SqL K H a (ns.map V.int) ∧ 0 ≤ n ∧
  ∀ (p : Addr) (H' : Hp), Same H H' → H p = none → Bag H' p → Q (.ref p) H'
def sp_law_take (K : PySem.W.Frag) : Sp := fun vs H Q _ => ∃ (b : Addr) (many : Int), vs = [.ref b, .int many] ∧ Bag H b ∧ 0 < many ∧ many < 2 ^ 200 ∧
  ∀ (d : Int) (H' : Hp), 0 ≤ d → d < many → Sx [b] H H' → Bag H' b → Q (.int d) H'
def sp_law_of (K : PySem.W.Frag) : Sp := fun vs H Q _ => ∃ (b p : Addr) (xs : List V), vs = [.ref b, .ref p] ∧ Bag H b ∧ H p = some (.lst xs) ∧ p ≠ b ∧ 0 < xs.length ∧ xs.length < 2 ^ 60 ∧
  ∀ (v : V) (H' : Hp), v ∈ xs → Sx [b] H H' → Bag H' b → Q v H'

section
variable {K : PySem.W.Frag} {W : List Addr} {H : Hp} {Q : VK} {E : XK} {b p a : Addr}
theorem call_seed {ns : List Int} {n : Int} (hS : SqL K H a (ns.map V.int)) (h0 : 0 ≤ n) (k : ∀ b H', H b = none → Ed [] H H' → Bag H' b → Q (.ref b) H') : sp_law_seed K [.ref a, .int n] H Q E :=
  ⟨a, ns, n, rfl, hS, h0, fun p H' s hp hb => k p H' hp (Ed.same s) hb⟩
theorem call_take {many : Int} (hb : Bag H b) (h1 : 0 < many) (h2 : many < 2 ^ 200) (k : ∀ d H', 0 ≤ d → d < many → Ed [b] H H' → Bag H' b → Q (.int d) H') : sp_law_take K [.ref b, .int many] H Q E :=
  ⟨b, many, rfl, hb, h1, h2, fun d H' d0 d1 s hb' => k d H' d0 d1 (Ed.sx s fun a z => by rw [List.mem_singleton.mp z]; exact hb'.alive) hb'⟩
theorem call_of {ds : List PyData} (hb : Bag H b) (h : Df W H (.ref p) (.list ds)) (hW : b ∈ W) (h1 : 0 < ds.length) (h2 : ds.length < 2 ^ 60) (k : ∀ v d H', d ∈ ds → Ed [b] H H' → Bag H' b → Df W H' v d → Q v H') : sp_law_of K [.ref b, .ref p] H Q E := by
  obtain ⟨xs, n, hp, r⟩ := h.cells
  refine ⟨b, p, xs, rfl, hb, hp, fun z => n (z ▸ hW), by rw [r.length]; exact h1, by rw [r.length]; exact h2, fun v H' hv s hb' => ?_⟩
  obtain ⟨i, hi, e⟩ := List.mem_iff_getElem.mp hv
  obtain ⟨d, e1, e2⟩ := r.at' (i := i) (v := v) (by rw [List.getElem?_eq_getElem hi, e])
  have ee : Ed [b] H H' := Ed.sx s fun a z => by rw [List.mem_singleton.mp z]; exact hb'.alive
  exact k v d H' (List.mem_of_getElem? e1) ee hb' (e2.ed ee (sub1 hW))
theorem call_ofC {ds : List PyData} (hb : Bag H b) (h : Df W H (.ref p) (.list ds)) (hW : b ∈ W) (k : ∀ v d H', d ∈ ds → Ed [b] H H' → Bag H' b → Df W H' v d → Q v H') (h1 : (Nat.ble 1 ds.length && Nat.ble ds.length 1000) = true := by rfl) : sp_law_of K [.ref b, .ref p] H Q E := by
  rw [Bool.and_eq_true] at h1
  have h2 := Nat.le_of_ble_eq_true h1.1
  have h3 := Nat.le_of_ble_eq_true h1.2
  exact call_of hb h hW (by omega) (by omega) k
end
theorem filter_yes {α : Type} {l : List α} {f : α → Bool} {i : Nat} {x : α} (h : l[i]? = some x) (hf : f x = true) : (l.take (i + 1)).filter f = (l.take i).filter f ++ [x] := by
  rw [List.take_succ, h]; simp [hf]
theorem filter_no {α : Type} {l : List α} {f : α → Bool} {i : Nat} {x : α} (h : l[i]? = some x) (hf : f x = false) : (l.take (i + 1)).filter f = (l.take i).filter f := by
  rw [List.take_succ, h]; simp [hf]
theorem take_snoc {α β : Type} {l : List α} {f : α → β} {i : Nat} {x : α} (h : l[i]? = some x) : (l.take (i + 1)).map f = (l.take i).map f ++ [f x] := by
  rw [List.take_succ, h]; simp
theorem take_all {α β : Type} {l : List α} {f : α → β} {n : Nat} (h : n = (l.map f).length) : l.take n = l := List.take_of_length_le (by rw [h, List.length_map]; exact Nat.le_refl _)
theorem at_map {α β : Type} {l : List α} {f : α → β} {i : Nat} {d : β} (h : (l.map f)[i]? = some d) : ∃ x, l[i]? = some x ∧ d = f x := by
  rw [List.getElem?_map] at h
  cases e : l[i]? with
  | none => rw [e] at h; cases h
  | some x => rw [e] at h; cases h; exact ⟨x, rfl, rfl⟩


def digs : Str := "0123456789"
def isNum (t : Str) : Bool := !(decide (t = "") || decide (3 < (t.length : Int))) && (t.cps.toList.all fun c => decide (c ∈ digs.cps.toList)) && (decide (t = "0") || !decide ((⟨#[t.cps.toList.headD 0]⟩ : Str) = "0"))
theorem atI_zero {l : List Nat} (h : l ≠ []) : atI l 0 = some (l.headD 0) := by
  cases l with
  | nil => exact absurd rfl h
  | cons a r =>
    have h1 : (0 : Int) < ((a :: r).length : Int) := by rw [List.length_cons]; omega
    unfold atI ixN
    rw [if_pos (Int.le_refl 0), if_pos h1]
    rfl
theorem all_take_succ {l : List Nat} {i : Nat} {c : Nat} {f : Nat → Bool} (h : l[i]? = some c) (hc : f c = true) (ha : (l.take i).all f = true) : (l.take (i + 1)).all f = true := by
  rw [List.take_succ, h, List.all_append, ha]
  simp [hc]
theorem all_no {l : List Nat} {i : Nat} {c : Nat} {f : Nat → Bool} (h : l[i]? = some c) (hc : f c = false) : l.all f = false := by
  rw [List.all_eq_false]
  exact ⟨c, List.mem_of_getElem? h, by simp [hc]⟩
theorem nil_of_ne {t : Str} (h : ¬ t = "") : t.cps.toList ≠ [] := fun z => h (str_eq z)

def sp_is_number (K : PySem.W.Frag) : Sp := fun vs H Q _ => ∃ t : Str, vs = [.str t] ∧ t.length ≤ 10000 ∧ Q (.bl (isNum t)) H

inductive Tm where
  | num (n : Int) | nam (s : Str)
def Tm.v : Tm → V
  | .num n => .int n
  | .nam s => .str s
abbrev Terms := List (Int × Tm)
def numVal (t : Str) : Int := (PySem.intText? t).getD 0
def termOf (names : List Str) (t : Str) : Option Tm := if t ∈ names then some (.nam t) else if isNum t = true then some (.num (numVal t)) else none
def signOf (t : Str) : Int := if t = "+" then 1 else -1
def isOp (t : Str) : Bool := decide (t = "+" ∨ t = "-")
/-- read_sum: the terms (none where no sum stands) and the index behind -/
def readS (names toks : List Str) : Nat → Nat → Int → Terms → Option Terms × Nat
  | 0, at_, _, _ => (none, at_)
  | n + 1, at_, f, acc => match termOf names (toks.getD at_ "") with
    | none => (none, at_)
    | some t => if toks.length ≤ at_ + 1 ∨ isOp (toks.getD (at_ + 1) "") = false ∨ acc.length + 1 = 5 then (some (acc ++ [(f, t)]), at_ + 1)
      else readS names toks n (at_ + 2) (signOf (toks.getD (at_ + 1) "")) (acc ++ [(f, t)])
def TermsAt (H : Hp) (l : Addr) (ts : Terms) : Prop := ∃ as : List Addr, H l = some (.lst (as.map V.ref)) ∧ Paired (fun (a : Addr) (t : Int × Tm) => H a = some (.tup [.int t.1, t.2.v])) as ts
theorem paired_snoc {α β : Type} {F : α → β → Prop} : ∀ {xs : List α} {ys : List β} {x : α} {y : β}, Paired F xs ys → F x y → Paired F (xs ++ [x]) (ys ++ [y])
  | _, _, _, _, .nil, h => .cons h .nil
  | _, _, _, _, .cons r t, h => .cons r (paired_snoc t h)
theorem TermsAt.nil {H : Hp} {l : Addr} : TermsAt (upd H l (.lst [])) l [] := ⟨[], upd_same, .nil⟩
theorem TermsAt.same {H H' : Hp} {l : Addr} {ts : Terms} (h : TermsAt H l ts) (s : Same H H') : TermsAt H' l ts := by
  obtain ⟨as, h1, h2⟩ := h
  exact ⟨as, s _ _ h1, Paired.mapP h2 fun a t e => s _ _ e⟩
theorem TermsAt.snoc {H : Hp} {l a : Addr} {as : List Addr} {ts : Terms} {f : Int} {t : Tm} (h1 : H l = some (.lst (as.map V.ref))) (h2 : Paired (fun (a : Addr) (t : Int × Tm) => H a = some (.tup [.int t.1, t.2.v])) as ts) (ha : H a = none) :
    TermsAt (upd (upd H a (.tup [.int f, t.v])) l (.lst (as.map V.ref ++ [.ref a]))) l (ts ++ [(f, t)]) := by
  have nal : a ≠ l := (ne_of_none h1 ha).symm
  refine ⟨as ++ [a], by rw [upd_same, List.map_append]; rfl, paired_snoc (Paired.mapP h2 fun b u e => ?_) ?_⟩
  · have nbl : b ≠ l := fun z => by rw [z, h1] at e; cases e
    rw [upd_ne nbl, upd_ne (ne_of_none e ha)]; exact e
  · rw [upd_ne nal, upd_same]
theorem digs_list : digs.cps.toList = [48, 49, 50, 51, 52, 53, 54, 55, 56, 57] := by decide +kernel
theorem num1 : ∀ a ∈ [48, 49, 50, 51, 52, 53, 54, 55, 56, 57], (PySem.intText? ⟨#[a]⟩).isSome = true := by decide +kernel
theorem num2 : ∀ a ∈ [48, 49, 50, 51, 52, 53, 54, 55, 56, 57], ∀ b ∈ [48, 49, 50, 51, 52, 53, 54, 55, 56, 57], (PySem.intText? ⟨#[a, b]⟩).isSome = true := by decide +kernel
theorem num3 : ∀ a ∈ [48, 49, 50, 51, 52, 53, 54, 55, 56, 57], ∀ b ∈ [48, 49, 50, 51, 52, 53, 54, 55, 56, 57], ∀ c ∈ [48, 49, 50, 51, 52, 53, 54, 55, 56, 57], (PySem.intText? ⟨#[a, b, c]⟩).isSome = true := by decide +kernel
theorem isNum_parts {t : Str} (h : isNum t = true) : t.cps.toList ≠ [] ∧ t.length ≤ 3 ∧ ∀ c ∈ t.cps.toList, c ∈ digs.cps.toList := by
  unfold isNum at h
  simp only [Bool.and_eq_true, Bool.not_eq_true', Bool.or_eq_false_iff, decide_eq_false_iff_not, List.all_eq_true, decide_eq_true_eq] at h
  obtain ⟨⟨⟨h1, h2⟩, h3⟩, _⟩ := h
  exact ⟨nil_of_ne h1, by omega, h3⟩
theorem isNum_int {t : Str} (h : isNum t = true) : PySem.intText? t = some (numVal t) := by
  obtain ⟨h1, h2, h3⟩ := isNum_parts h
  rw [digs_list] at h3
  have hs : (PySem.intText? t).isSome = true := by
    have e : t = ⟨t.cps.toList.toArray⟩ := str_eq rfl
    have hl : t.cps.toList.length ≤ 3 := by simpa [Str.length] using h2
    generalize t.cps.toList = l at *
    subst e
    match l, h1, hl, h3 with
    | [a], _, _, h3 => exact num1 a (h3 a (by simp))
    | [a, b], _, _, h3 => exact num2 a (h3 a (by simp)) b (h3 b (by simp))
    | [a, b, c], _, _, h3 => exact num3 a (h3 a (by simp)) b (h3 b (by simp)) c (h3 c (by simp))
    | _ :: _ :: _ :: _ :: _, _, hl, _ => exact absurd hl (by simp)
  obtain ⟨n, hn⟩ := Option.isSome_iff_exists.mp hs
  unfold numVal
  rw [hn]; rfl
theorem inV_ops {d : Str} : inV (.str d) [.str "+", .str "-"] = isOp d := by
  show inV (.str d) ((["+", "-"] : List Str).map V.str) = _
  rw [inV_str]
  unfold isOp
  simp
/-- how read_sum's answer lies at t -/
def RsAt (H H' : Hp) (t : Addr) (r : Option Terms × Nat) : Prop := match r with
  | (none, n) => H' t = some (.tup [.non, .int (n : Nat)])
  | (some ts, n) => ∃ l, H l = none ∧ H' t = some (.tup [.ref l, .int (n : Nat)]) ∧ TermsAt H' l ts

def sp_read_sum (K : PySem.W.Frag) : Sp := fun vs H Q _ => ∃ (p q : Addr) (toks names : List Str) (s : Nat), vs = [.ref p, .int (s : Nat), .ref q] ∧ SqL K H p (toks.map V.str) ∧ SqL K H q (names.map V.str) ∧ (∀ t ∈ toks, t.length ≤ 10000) ∧
  ∀ (t : Addr) (H' : Hp), Same H H' → H t = none → RsAt H H' t (readS names toks 5 s 1 []) → Q (.ref t) H'

theorem lens_words {t a : Str} (h : a ∈ Txt.words t) : a.length ≤ t.length := PyProof.Rows.word_short h


def abc : Str := "abcdefghijklmnopqrstuvwxyz"
def abc14 : Str := "bcdfjkmpquwxyz"
theorem abc_at : ∀ d : Nat, d < 26 → abc.cps.toList[d]? = some (97 + d) := by decide +kernel
theorem abc14_at : ∀ d : Nat, d < 14 → ∃ c, abc14.cps.toList[d]? = some c ∧ 97 ≤ c ∧ c ≤ 122 := by
  have h : ∀ d : Nat, d < 14 → (abc14.cps.toList[d]?).any (fun c => decide (97 ≤ c ∧ c ≤ 122)) = true := by decide +kernel
  intro d hd
  have := h d hd
  cases e : abc14.cps.toList[d]? with
  | none => rw [e] at this; cases this
  | some c => rw [e] at this; exact ⟨c, rfl, by simpa using this⟩
theorem atI_abc {d : Int} (h0 : 0 ≤ d) (h1 : d < 26) : atI abc.cps.toList d = some (97 + d.toNat) := by
  have := atI_of (abc_at d.toNat (by omega))
  rwa [show ((d.toNat : Nat) : Int) = d by omega] at this
/-- the i-th name, its first letter by f -/
def Wd (f i : Nat) (t : Str) : Prop := ∃ c r, t.cps.toList = c :: r ∧ abc14.cps.toList[(f + i) % 14]? = some c ∧ r.length ≤ 7 ∧ ∀ d ∈ r, 97 ≤ d ∧ d ≤ 122
def NamesOk (f : Nat) (names : List Str) : Prop := ∀ i t, names[i]? = some t → Wd f i t
theorem Wd.tk {f i : Nat} {t : Str} (h : Wd f i t) : Tk t := by
  obtain ⟨c, r, e, hc, _, hr⟩ := h
  refine ⟨by rw [e]; exact List.cons_ne_nil _ _, fun d hd => ?_⟩
  rw [e] at hd
  rcases List.mem_cons.mp hd with rfl | hd
  · obtain ⟨c', h1, h2⟩ := abc14_at ((f + i) % 14) (Nat.mod_lt _ (by decide))
    rw [hc] at h1; cases h1; omega
  · have := hr d hd; omega
theorem Wd.len {f i : Nat} {t : Str} (h : Wd f i t) : t.length ≤ 8 := by
  obtain ⟨c, r, e, _, hl, _⟩ := h
  have : t.length = t.cps.toList.length := by simp [Str.length]
  rw [this, e, List.length_cons]; omega
theorem NamesOk.mem {f : Nat} {names : List Str} (h : NamesOk f names) {t : Str} (ht : t ∈ names) : ∃ i, Wd f i t := by
  obtain ⟨i, hi, e⟩ := List.mem_iff_getElem.mp ht
  exact ⟨i, h i t (by rw [List.getElem?_eq_getElem hi, e])⟩
theorem NamesOk.tk {f : Nat} {names : List Str} (h : NamesOk f names) {t : Str} (ht : t ∈ names) : Tk t := by
  obtain ⟨i, hi⟩ := h.mem ht
  exact hi.tk
theorem NamesOk.len {f : Nat} {names : List Str} (h : NamesOk f names) {t : Str} (ht : t ∈ names) : t.length ≤ 8 := by
  obtain ⟨i, hi⟩ := h.mem ht
  exact hi.len
theorem NamesOk.nil (f : Nat) : NamesOk f [] := fun i t h => by simp at h
theorem NamesOk.snoc {f : Nat} {names : List Str} {t : Str} (h : NamesOk f names) (ht : Wd f names.length t) : NamesOk f (names ++ [t]) := fun i u hu => by
  rcases Nat.lt_trichotomy i names.length with q | q | q
  · rw [List.getElem?_append_left q] at hu; exact h i u hu
  · subst q
    rw [List.getElem?_append_right (Nat.le_refl _), Nat.sub_self] at hu
    cases hu
    exact ht
  · rw [List.getElem?_append_right (by omega)] at hu
    rw [List.getElem?_eq_none (by simp; omega)] at hu
    cases hu
/-- small letters, one a text -/
def Lets (ls : List Str) : Prop := ∀ t ∈ ls, ∃ c, t.cps.toList = [c] ∧ 97 ≤ c ∧ c ≤ 122
theorem lets_join : ∀ {ls : List Str}, Lets ls → (Str.join "" ls).cps.toList.length = ls.length ∧ ∀ c ∈ (Str.join "" ls).cps.toList, 97 ≤ c ∧ c ≤ 122
  | [], _ => ⟨rfl, fun c hc => by cases hc⟩
  | [x], h => by
    obtain ⟨c, e, hc⟩ := h x (List.mem_cons_self ..)
    show x.cps.toList.length = 1 ∧ ∀ c ∈ x.cps.toList, _
    rw [e]
    exact ⟨rfl, fun d hd => by simp at hd; subst hd; exact hc⟩
  | x :: y :: r, h => by
    obtain ⟨c, e, hc⟩ := h x (List.mem_cons_self ..)
    obtain ⟨h1, h2⟩ := lets_join (ls := y :: r) fun t ht => h t (List.mem_cons_of_mem _ ht)
    have e2 : (Str.join "" (x :: y :: r)).cps.toList = c :: (Str.join "" (y :: r)).cps.toList := by
      rw [join_cons2, Str.cps_append, Str.cps_append, Array.toList_append, Array.toList_append, e]
      rfl
    rw [e2]
    refine ⟨by rw [List.length_cons, h1]; rfl, fun d hd => ?_⟩
    rcases List.mem_cons.mp hd with rfl | hd
    · exact hc
    · exact h2 d hd
theorem lets_len {ls : List Str} (h : Lets ls) : ∀ t ∈ ls, t.length ≤ 1 := fun t ht => by
  obtain ⟨c, e, _⟩ := h t ht
  have : t.length = t.cps.toList.length := by simp [Str.length]
  rw [this, e]; exact Nat.le_refl _
theorem lets_snoc {ls : List Str} {c : Nat} (h : Lets ls) (h1 : 97 ≤ c) (h2 : c ≤ 122) : Lets (ls ++ [⟨#[c]⟩]) := fun t ht => by
  rcases List.mem_append.mp ht with ht | ht
  · exact h t ht
  · simp at ht; subst ht; exact ⟨c, rfl, h1, h2⟩
def sp_law_names (K : PySem.W.Frag) : Sp := fun vs H Q _ => ∃ (b : Addr) (many : Nat), vs = [.ref b, .int (many : Nat)] ∧ Bag H b ∧ many < 1000 ∧
  ∀ (p : Addr) (f : Nat) (names : List Str) (H' : Hp), Sx [b] H H' → Bag H' b → H p = none → H' p = some (.lst (names.map V.str)) → names.length = many → NamesOk f names → Q (.ref p) H'

theorem call_names {K : PySem.W.Frag} {W : List Addr} {H : Hp} {Q : VK} {E : XK} {b : Addr} {many : Nat} {m : Int} (hb : Bag H b) (hw : Wl W H) (hm : many < 1000) (e : m = (many : Nat)) (k : ∀ p f names H', H p = none → Ed [b] H H' → Bag H' b → Df W H' (.ref p) (.list (names.map PyData.str)) → names.length = many → NamesOk f names → Q (.ref p) H') : sp_law_names K [.ref b, .int m] H Q E := by
  subst e
  exact ⟨b, many, rfl, hb, hm, fun p f names H' s hb' hp h l ok => k p f names H' hp (Ed.sx s fun a z => by rw [List.mem_singleton.mp z]; exact hb'.alive) hb' (Df.ofStrs (hw.not hp) h) l ok⟩


/-- the reader at r and its lists -/
structure Rda where
  r : Addr
  dx : Addr
  p : Addr
  q : Addr
  h : Addr
  k : Addr
structure Rdl where
  toks : List Str
  names : List Str
  hs : List Str
  rs : List Str
def rdFs (a : Rda) (n : Nat) : List (Str × V) := [("tokens", .ref a.p), ("names", .ref a.q), ("handles", .ref a.h), ("requests", .ref a.k), ("at", .int (n : Nat))]
def RdAt (K : PySem.W.Frag) (H : Hp) (a : Rda) (l : Rdl) (n : Nat) : Prop := H a.r = some (.ins (He.ga K "Reader") a.dx (rdFs a n)) ∧ H a.p = some (.lst (l.toks.map V.str)) ∧ H a.q = some (.lst (l.names.map V.str)) ∧ H a.h = some (.lst (l.hs.map V.str)) ∧ H a.k = some (.lst (l.rs.map V.str))
def pk (toks : List Str) (n : Nat) : Str := toks.getD n ""
theorem pk_in {toks : List Str} {n : Nat} (h : n < toks.length) : toks[n]? = some (pk toks n) := by
  unfold pk
  rw [List.getD_eq_getElem?_getD, List.getElem?_eq_getElem h]; rfl
theorem pk_out {toks : List Str} {n : Nat} (h : toks.length ≤ n) : pk toks n = "" := by
  unfold pk
  rw [List.getD_eq_getElem?_getD, List.getElem?_eq_none h]; rfl
theorem pk_lt {toks : List Str} {n : Nat} {s : Str} (h : pk toks n = s) (hs : s ≠ "") : n < toks.length := by
  by_cases q : n < toks.length
  · exact q
  · rw [pk_out (by omega)] at h
    exact absurd h.symm hs
theorem put_at {a : Rda} {n m : Nat} {v : Int} (h : v = (m : Nat)) : putF "at" (.int v) (rdFs a n) = rdFs a m := by
  subst h
  unfold rdFs
  rw [putF_ne (by decide +kernel), putF_ne (by decide +kernel), putF_ne (by decide +kernel), putF_ne (by decide +kernel), putF_eq]
theorem RdAt.to {K : PySem.W.Frag} {H H' : Hp} {a : Rda} {l : Rdl} {n m : Nat} (h : RdAt K H a l n) (s : Sx [a.r] H H') (e : H' a.r = some (.ins (He.ga K "Reader") a.dx (rdFs a m))) : RdAt K H' a l m := by
  obtain ⟨h1, h2, h3, h4, h5⟩ := h
  have ne : ∀ {x : Addr} {xs : List V}, H x = some (.lst xs) → x ≠ a.r := fun hx z => by rw [z, h1] at hx; cases hx
  exact ⟨e, s.get1 (ne h2) h2, s.get1 (ne h3) h3, s.get1 (ne h4) h4, s.get1 (ne h5) h5⟩
theorem RdAt.same {K : PySem.W.Frag} {H H' : Hp} {a : Rda} {l : Rdl} {n : Nat} (h : RdAt K H a l n) (s : Same H H') : RdAt K H' a l n := ⟨s _ _ h.1, s _ _ h.2.1, s _ _ h.2.2.1, s _ _ h.2.2.2.1, s _ _ h.2.2.2.2⟩
theorem RdAt.ne {K : PySem.W.Frag} {H : Hp} {a : Rda} {l : Rdl} {n : Nat} (h : RdAt K H a l n) : a.p ≠ a.r ∧ a.q ≠ a.r ∧ a.h ≠ a.r ∧ a.k ≠ a.r := by
  obtain ⟨h1, h2, h3, h4, h5⟩ := h
  have ne : ∀ {x : Addr} {xs : List V}, H x = some (.lst xs) → x ≠ a.r := fun hx z => by rw [z, h1] at hx; cases hx
  exact ⟨ne h2, ne h3, ne h4, ne h5⟩
theorem RdAt.fr {K : PySem.W.Frag} {H H' : Hp} {a : Rda} {l : Rdl} {n : Nat} {p : Addr} (h : RdAt K H' a l n) (s : Sx [a.r] H H') (e : H' p = none) : H p = none := s.free (by simpa using (ne_of_none h.1 e).symm) e
theorem RdAt.step {K : PySem.W.Frag} {H : Hp} {a : Rda} {l : Rdl} {n m : Nat} {v : Int} (h : RdAt K H a l n) (e : v = (m : Nat)) : RdAt K (upd H a.r (.ins (He.ga K "Reader") a.dx (putF "at" (.int v) (rdFs a n)))) a l m :=
  h.to ((Sx.refl H).put (by simp)) (by rw [upd_same, put_at e])
theorem TermsAt.sx {H H' : Hp} {l r C dx : Addr} {fs : List (Str × V)} {ts : Terms} (h : TermsAt H l ts) (s : Sx [r] H H') (hr : H r = some (.ins C dx fs)) : TermsAt H' l ts := by
  obtain ⟨as, h1, h2⟩ := h
  exact ⟨as, s.get1 (fun z => by rw [z, hr] at h1; cases h1) h1, Paired.mapP h2 fun a t e => s.get1 (fun z => by rw [z, hr] at e; cases e) e⟩
theorem RdAt.mut {K : PySem.W.Frag} {H H' : Hp} {a : Rda} {l : Rdl} {n m : Nat} {p : Addr} {o : HO} (h : RdAt K H' a l m) (h0 : RdAt K H a l n) (hp : H p = none) : RdAt K (upd H' p o) a l m := by
  have ne : ∀ {x : Addr} {u : HO}, H x = some u → x ≠ p := fun hx => ne_of_none hx hp
  obtain ⟨h1, h2, h3, h4, h5⟩ := h
  obtain ⟨g1, g2, g3, g4, g5⟩ := h0
  exact ⟨by rw [upd_ne (ne g1)]; exact h1, by rw [upd_ne (ne g2)]; exact h2, by rw [upd_ne (ne g3)]; exact h3, by rw [upd_ne (ne g4)]; exact h4, by rw [upd_ne (ne g5)]; exact h5⟩
theorem sqL_sx {K : PySem.W.Frag} {H H' : Hp} {q r C dx : Addr} {xs : List V} {fs : List (Str × V)} (h : SqL K H q xs) (s : Sx [r] H H') (hr : H r = some (.ins C dx fs)) : SqL K H' q xs := by
  rcases h with h | h
  · rcases h with h | ⟨o, h⟩
    · exact .inl (.inl (s.get1 (fun z => by rw [z, hr] at h; cases h) h))
    · exact .inl (.inr ⟨o, s.get1 (fun z => by rw [z, hr] at h; cases h) h⟩)
  · exact .inr h
theorem Sx.drop1 {b : Addr} {H H1 H2 : Hp} (s : Same H H1) (n : H b = none) (t : Sx [b] H1 H2) : Same H H2 := fun a o e => t a o (by simpa using ne_of_none e n) (s a o e)
def TkL (ts : List Str) : Prop := (∀ t ∈ ts, t.length ≤ 10000) ∧ ts.length ≤ 20000
def takeR (al toks : List Str) (n : Nat) : Except Nat (Str × Nat) := if pk toks n ∈ al then .ok (pk toks n, n + 1) else .error n
def sumR (names toks : List Str) (n : Nat) : Except Nat (Terms × Nat) := match readS names toks 5 n 1 [] with
  | (some ts, m) => .ok (ts, m)
  | (none, m) => .error m

def sp_Reader_peek (K : PySem.W.Frag) : Sp := fun vs H Q _ => ∃ (a : Rda) (l : Rdl) (n : Nat), vs = [.ref a.r] ∧ RdAt K H a l n ∧ Q (.str (pk l.toks n)) H
def sp_Reader_take (K : PySem.W.Frag) : Sp := fun vs H Q E => ∃ (a : Rda) (l : Rdl) (n : Nat) (p : Addr) (al : List Str), vs = [.ref a.r, .ref p] ∧ RdAt K H a l n ∧ (SqL K H p (al.map V.str) ∨ SqT K H p (al.map V.str)) ∧
  (∀ e, takeR al l.toks n = .error e → ∀ d, H d = none → E (.ref (He.ga K "BadCondition")) (some d) (upd H d (.xd [("at", .int (e : Nat))]))) ∧
  (∀ t m, takeR al l.toks n = .ok (t, m) → ∀ H', Sx [a.r] H H' → RdAt K H' a l m → Q (.str t) H')
def sp_Reader_sum_terms (K : PySem.W.Frag) : Sp := fun vs H Q E => ∃ (a : Rda) (l : Rdl) (n : Nat), vs = [.ref a.r] ∧ RdAt K H a l n ∧ (∀ t ∈ l.toks, t.length ≤ 10000) ∧
  (∀ e, sumR l.names l.toks n = .error e → ∀ d H', Sx [a.r] H H' → H' d = some (.xd [("at", .int (e : Nat))]) → E (.ref (He.ga K "BadCondition")) (some d) H') ∧
  (∀ ts m, sumR l.names l.toks n = .ok (ts, m) → ∀ p H', Sx [a.r] H H' → RdAt K H' a l m → H p = none → TermsAt H' p ts → Q (.ref p) H')

inductive Atom where
  | word (b : Bool) (w x : Str)
  | cmp (b : Bool) (s : Str) (l r : Terms)
/-- an atom's tuple at t; F holds of its own lists -/
def AtomAt (F : Addr → Prop) (H : Hp) (t : Addr) : Atom → Prop
  | .word b w x => H t = some (.tup [.bl b, .str w, .str x, .int 0])
  | .cmp b s l r => ∃ p q, H t = some (.tup [.bl b, .str s, .ref p, .ref q]) ∧ F p ∧ F q ∧ TermsAt H p l ∧ TermsAt H q r
theorem TermsAt.go {H H' : Hp} {l : Addr} {ts : Terms} (h : TermsAt H l ts) (ht : ∀ a xs, H a = some (.tup xs) → H' a = some (.tup xs)) (hl : ∀ xs, H l = some (.lst xs) → H' l = some (.lst xs)) : TermsAt H' l ts := by
  obtain ⟨as, h1, h2⟩ := h
  exact ⟨as, hl _ h1, Paired.mapP h2 fun a t e => ht _ _ e⟩
theorem AtomAt.go {F F' : Addr → Prop} {H H' : Hp} {t : Addr} {a : Atom} (h : AtomAt F H t a) (ht : ∀ a xs, H a = some (.tup xs) → H' a = some (.tup xs)) (hl : ∀ a xs, F a → H a = some (.lst xs) → F' a ∧ H' a = some (.lst xs)) : AtomAt F' H' t a := by
  cases a with
  | word b w x => exact ht _ _ h
  | cmp b s l r =>
    obtain ⟨p, q, h1, h2, h3, h4, h5⟩ := h
    obtain ⟨as, e1, _⟩ := id h4
    obtain ⟨bs, e2, _⟩ := id h5
    exact ⟨p, q, ht _ _ h1, (hl _ _ h2 e1).1, (hl _ _ h3 e2).1, h4.go ht fun xs e => (hl _ _ h2 e).2, h5.go ht fun xs e => (hl _ _ h3 e).2⟩
/-- a list at l of things that lie as R says -/
def LsAt {α : Type} (R : (Addr → Prop) → Hp → Addr → α → Prop) (F : Addr → Prop) (H : Hp) (l : Addr) (xs : List α) : Prop := F l ∧ ∃ as : List Addr, H l = some (.lst (as.map V.ref)) ∧ Paired (R F H) as xs
def PartAt := LsAt AtomAt
def PartsAt := LsAt PartAt
/-- what may move: tuples stay, the lists of F stay -/
def Mv (F F' : Addr → Prop) (H H' : Hp) : Prop := (∀ a xs, H a = some (.tup xs) → H' a = some (.tup xs)) ∧ ∀ a xs, F a → H a = some (.lst xs) → F' a ∧ H' a = some (.lst xs)
theorem AtomAt.mv {F F' : Addr → Prop} {H H' : Hp} {t : Addr} {a : Atom} (h : AtomAt F H t a) (m : Mv F F' H H') : AtomAt F' H' t a := h.go m.1 m.2
theorem LsAt.mv {α : Type} {R : (Addr → Prop) → Hp → Addr → α → Prop} {F F' : Addr → Prop} {H H' : Hp} {l : Addr} {xs : List α} (hR : ∀ t a, R F H t a → R F' H' t a) (h : LsAt R F H l xs) (m : Mv F F' H H') : LsAt R F' H' l xs := by
  obtain ⟨h0, as, h1, h2⟩ := h
  exact ⟨(m.2 _ _ h0 h1).1, as, (m.2 _ _ h0 h1).2, Paired.mapP h2 fun a t e => hR a t e⟩
theorem PartAt.mv {F F' : Addr → Prop} {H H' : Hp} {l : Addr} {xs : List Atom} (h : PartAt F H l xs) (m : Mv F F' H H') : PartAt F' H' l xs := LsAt.mv (fun _ _ z => AtomAt.mv z m) h m
theorem PartsAt.mv {F F' : Addr → Prop} {H H' : Hp} {l : Addr} {xs : List (List Atom)} (h : PartsAt F H l xs) (m : Mv F F' H H') : PartsAt F' H' l xs := LsAt.mv (fun _ _ z => PartAt.mv z m) h m
theorem Mv.sx {F : Addr → Prop} {H H' : Hp} {r C dx : Addr} {fs : List (Str × V)} (s : Sx [r] H H') (hr : H r = some (.ins C dx fs)) : Mv F F H H' :=
  ⟨fun a xs e => s.get1 (fun z => by rw [z, hr] at e; cases e) e, fun a xs f e => ⟨f, s.get1 (fun z => by rw [z, hr] at e; cases e) e⟩⟩
theorem Mv.same {F : Addr → Prop} {H H' : Hp} (s : Same H H') : Mv F F H H' := ⟨fun a xs e => s _ _ e, fun a xs f e => ⟨f, s _ _ e⟩⟩
theorem Mv.weak {F F' : Addr → Prop} {H : Hp} (h : ∀ a, H a ≠ none → F a → F' a) : Mv F F' H H := ⟨fun a xs e => e, fun a xs f e => ⟨h a (by rw [e]; exact fun z => nomatch z) f, e⟩⟩
/-- an item more at the list l, which is not of F -/
theorem Mv.put {F : Addr → Prop} {H : Hp} {l : Addr} {xs ys : List V} (h : H l = some (.lst xs)) (n : ¬ F l) : Mv F F H (upd H l (.lst ys)) :=
  ⟨fun a zs e => by rw [upd_ne (fun z => by rw [z, h] at e; cases e)]; exact e, fun a zs f e => ⟨f, by rw [upd_ne (show a ≠ l from fun z => n (by rw [← z]; exact f))]; exact e⟩⟩
theorem Mv.trans {F F' F'' : Addr → Prop} {H H' H'' : Hp} (m : Mv F F' H H') (n : Mv F' F'' H' H'') : Mv F F'' H H'' := ⟨fun a xs e => n.1 _ _ (m.1 _ _ e), fun a xs f e => n.2 _ _ (m.2 _ _ f e).1 (m.2 _ _ f e).2⟩
def nots (toks : List Str) : Nat → Nat → Bool → Nat × Bool
  | 0, n, b => (n, b)
  | f + 1, n, b => if pk toks n = "not" then nots toks f (n + 1) (!b) else (n, b)
def signs6 : List Str := ["=", "!=", "<", "<=", ">", ">="]
def atomB (l : Rdl) (b : Bool) (n : Nat) : Except Nat (Atom × Nat) :=
  if pk l.toks n ∈ (["none", "live"] : List Str) ∧ l.hs ≠ [] then match takeR l.hs l.toks (n + 1) with
    | .ok (x, m) => .ok (.word b (pk l.toks n) x, m)
    | .error e => .error e
  else if pk l.toks n ∈ (["open"] : List Str) ∧ l.rs ≠ [] then match takeR l.rs l.toks (n + 1) with
    | .ok (x, m) => .ok (.word b (pk l.toks n) x, m)
    | .error e => .error e
  else match sumR l.names l.toks n with
    | .error e => .error e
    | .ok (x, m) => match takeR signs6 l.toks m with
      | .error e => .error e
      | .ok (s, m) => match sumR l.names l.toks m with
        | .error e => .error e
        | .ok (y, m) => .ok (.cmp b s x y, m)
def atomR (l : Rdl) (n : Nat) : Except Nat (Atom × Nat) := atomB l (nots l.toks (l.toks.length + 1) n true).2 (nots l.toks (l.toks.length + 1) n true).1
def moreR {α : Type} (sep : Str) (one : Nat → Except Nat (α × Nat)) (toks : List Str) : Nat → List α → Nat → Except Nat (List α × Nat)
  | 0, acc, n => .ok (acc, n)
  | f + 1, acc, n => if pk toks n = sep then match one (n + 1) with
      | .error e => .error e
      | .ok (a, m) => moreR sep one toks f (acc ++ [a]) m
    else .ok (acc, n)
def manyR {α : Type} (sep : Str) (one : Nat → Except Nat (α × Nat)) (toks : List Str) (n : Nat) : Except Nat (List α × Nat) := match one n with
  | .error e => .error e
  | .ok (a, m) => moreR sep one toks (toks.length + 1) [a] m
def partR (l : Rdl) : Nat → Except Nat (List Atom × Nat) := manyR "and" (atomR l) l.toks
def condR (l : Rdl) : Nat → Except Nat (List (List Atom) × Nat) := manyR "or" (partR l) l.toks
/-! reading goes on -/
theorem readS_ge {names toks : List Str} : ∀ (m at_ : Nat) (f : Int) (acc : Terms), at_ ≤ (readS names toks m at_ f acc).2
  | 0, at_, _, _ => Nat.le_refl _
  | m + 1, at_, f, acc => by
    unfold readS
    split
    · exact Nat.le_refl _
    · split
      · exact Nat.le_succ _
      · exact Nat.le_trans (by omega) (readS_ge m (at_ + 2) _ _)
theorem takeR_ge {al toks : List Str} {n m : Nat} {t : Str} (h : takeR al toks n = .ok (t, m)) : n ≤ m := by
  unfold takeR at h
  split at h
  · cases h; omega
  · cases h
theorem sumR_ge {names toks : List Str} {n m : Nat} {ts : Terms} (h : sumR names toks n = .ok (ts, m)) : n ≤ m := by
  have g := readS_ge (names := names) (toks := toks) 5 n 1 []
  unfold sumR at h
  split at h
  · rename_i e
    cases h
    rw [e] at g
    exact g
  · cases h
theorem nots_ge {toks : List Str} : ∀ (f n : Nat) (b : Bool), n ≤ (nots toks f n b).1
  | 0, n, b => Nat.le_refl _
  | f + 1, n, b => by
    unfold nots
    split
    · exact Nat.le_trans (Nat.le_succ _) (nots_ge f (n + 1) _)
    · exact Nat.le_refl _
theorem atomB_ge {l : Rdl} {b : Bool} {n m : Nat} {a : Atom} (h : atomB l b n = .ok (a, m)) : n ≤ m := by
  unfold atomB at h
  split at h
  · split at h
    · rename_i e; cases h; have := takeR_ge e; omega
    · cases h
  · split at h
    · split at h
      · rename_i e; cases h; have := takeR_ge e; omega
      · cases h
    · split at h
      · cases h
      · rename_i e1
        split at h
        · cases h
        · rename_i e2
          split at h
          · cases h
          · rename_i e3
            cases h
            have := sumR_ge e1
            have := takeR_ge e2
            have := sumR_ge e3
            omega
theorem atomR_ge {l : Rdl} {n m : Nat} {a : Atom} (h : atomR l n = .ok (a, m)) : n ≤ m := Nat.le_trans (nots_ge _ _ _) (atomB_ge h)
theorem moreR_ge {α : Type} {sep : Str} {one : Nat → Except Nat (α × Nat)} {toks : List Str} (ho : ∀ n a m, one n = .ok (a, m) → n ≤ m) : ∀ (f : Nat) (acc : List α) (n : Nat) (r : List α) (m : Nat), moreR sep one toks f acc n = .ok (r, m) → n ≤ m
  | 0, acc, n, r, m, h => by
    have h : Except.ok (acc, n) = Except.ok (r, m) := h
    cases h; exact Nat.le_refl _
  | f + 1, acc, n, r, m, h => by
    unfold moreR at h
    split at h
    · split at h
      · cases h
      · rename_i e
        have := ho _ _ _ e
        have := moreR_ge ho f _ _ _ _ h
        omega
    · cases h; exact Nat.le_refl _
theorem partR_ge {l : Rdl} {n m : Nat} {a : List Atom} (h : partR l n = .ok (a, m)) : n ≤ m := by
  unfold partR manyR at h
  split at h
  · cases h
  · rename_i e
    have := atomR_ge e
    have := moreR_ge (fun n a m => atomR_ge) _ _ _ _ _ h
    omega

def sp_Reader_read_atom (K : PySem.W.Frag) : Sp := fun vs H Q E => ∃ (a : Rda) (l : Rdl) (n : Nat), vs = [.ref a.r] ∧ RdAt K H a l n ∧ (∀ t ∈ l.toks, t.length ≤ 10000) ∧
  (∀ e, atomR l n = .error e → ∀ d H', Sx [a.r] H H' → H' d = some (.xd [("at", .int (e : Nat))]) → E (.ref (He.ga K "BadCondition")) (some d) H') ∧
  (∀ x m, atomR l n = .ok (x, m) → ∀ t H', Sx [a.r] H H' → RdAt K H' a l m → H t = none → AtomAt (fun a => H a = none) H' t x → Q (.ref t) H')
def sp_Reader_read_part (K : PySem.W.Frag) : Sp := fun vs H Q E => ∃ (a : Rda) (l : Rdl) (n : Nat), vs = [.ref a.r] ∧ RdAt K H a l n ∧ TkL l.toks ∧
  (∀ e, partR l n = .error e → ∀ d H', Sx [a.r] H H' → H' d = some (.xd [("at", .int (e : Nat))]) → E (.ref (He.ga K "BadCondition")) (some d) H') ∧
  (∀ x m, partR l n = .ok (x, m) → ∀ t H', Sx [a.r] H H' → RdAt K H' a l m → H t = none → PartAt (fun a => H a = none) H' t x → Q (.ref t) H')
def sp_Reader_read_condition (K : PySem.W.Frag) : Sp := fun vs H Q E => ∃ (a : Rda) (l : Rdl) (n : Nat), vs = [.ref a.r] ∧ RdAt K H a l n ∧ TkL l.toks ∧
  (∀ e, condR l n = .error e → ∀ d H', Sx [a.r] H H' → H' d = some (.xd [("at", .int (e : Nat))]) → E (.ref (He.ga K "BadCondition")) (some d) H') ∧
  (∀ x m, condR l n = .ok (x, m) → ∀ t H', Sx [a.r] H H' → RdAt K H' a l m → H t = none → PartsAt (fun a => H a = none) H' t x → Q (.ref t) H')
def sp_Reader___init__ (K : PySem.W.Frag) : Sp := fun vs H Q _ => ∃ (x dx p q h k : Addr) (l : Rdl), vs = [.ref x, .ref p, .ref q, .ref h, .ref k] ∧ H x = some (.ins (He.ga K "Reader") dx []) ∧ H p = some (.lst (l.toks.map V.str)) ∧ SqL K H q (l.names.map V.str) ∧ SqL K H h (l.hs.map V.str) ∧ SqL K H k (l.rs.map V.str) ∧
  ∀ (a : Rda) (H' : Hp), a.r = x → a.p = p → Sx [x] H H' → RdAt K H' a l 0 → Q .non H'

def CondAt (K : PySem.W.Frag) (F : Addr → Prop) (H : Hp) (x : Addr) (ps : List (List Atom)) (shown : Str) : Prop := ∃ dx l, H x = some (.ins (He.ga K "Condition") dx [("parts", .ref l), ("shown", .str shown)]) ∧ PartsAt F H l ps
def initC (l : Rdl) : Except Nat (List (List Atom)) := match condR l 0 with
  | .error e => .error e
  | .ok (ps, m) => if m < l.toks.length then .error m else .ok ps
theorem words_many {t : Str} : (Txt.words t).length ≤ t.length + 1 := by
  have := StrLaws.words_weight t
  omega

def sp_Condition___init__ (K : PySem.W.Frag) : Sp := fun vs H Q E => ∃ (x dx q h k : Addr) (text : Str) (l : Rdl), vs = [.ref x, .str text, .ref q, .ref h, .ref k] ∧ H x = some (.ins (He.ga K "Condition") dx []) ∧ SqL K H q (l.names.map V.str) ∧ SqL K H h (l.hs.map V.str) ∧ SqL K H k (l.rs.map V.str) ∧ l.toks = Txt.words text ∧ text.length ≤ 10000 ∧
  (∀ e, initC l = .error e → ∀ d H', Sx [x] H H' → H' d = some (.xd [("at", .int (e : Nat))]) → E (.ref (He.ga K "BadCondition")) (some d) H') ∧
  (∀ ps, initC l = .ok ps → ∀ H', Sx [x] H H' → CondAt K (fun a => H a = none) H' x ps (Txt.join " " l.toks) → Q .non H')

def tmV (val : Str → Int) : Tm → Int
  | .num n => n
  | .nam s => val s
def sumV (val : Str → Int) (ts : Terms) : Int := (ts.map fun t => t.1 * tmV val t.2).sum
/-- the values of the names in ts lie in the dict kvs; factors are 1 and -1 -/
def ValsIn (kvs : List (Key × V)) (val : Str → Int) (ts : Terms) : Prop := ∀ t ∈ ts, (t.1 = 1 ∨ t.1 = -1) ∧ (∀ s, t.2 = .nam s → valV kvs (.inr s) = some (.int (val s)))
def cmpB (s : Str) (l r : Int) : Bool := if s = "=" then decide (l = r) else if s = "!=" then !decide (l = r) else if s = "<" then decide (l < r) else if s = "<=" then decide (l ≤ r) else if s = ">" then decide (l > r) else decide (l ≥ r)
theorem paired_at {α β : Type} {F : α → β → Prop} : ∀ {xs : List α} {ys : List β} {i : Nat} {x : α}, Paired F xs ys → xs[i]? = some x → ∃ y, ys[i]? = some y ∧ F x y
  | _, _, _, _, .nil, e => by simp at e
  | _, _, 0, _, .cons (b := y) r _, e => by simp at e; subst e; exact ⟨y, rfl, r⟩
  | _, _, i + 1, _, .cons _ t, e => by
    simp at e
    obtain ⟨y, h1, h2⟩ := paired_at t e
    exact ⟨y, by simpa using h1, h2⟩

def sp_compares (K : PySem.W.Frag) : Sp := fun vs H Q _ => ∃ (s : Str) (l r : Int), vs = [.str s, .int l, .int r] ∧ Q (.bl (cmpB s l r)) H
def sp_sum_of (K : PySem.W.Frag) : Sp := fun vs H Q _ => ∃ (p d : Addr) (ts : Terms) (kvs : List (Key × V)) (val : Str → Int), vs = [.ref p, .ref d] ∧ TermsAt H p ts ∧ H d = some (.dK kvs) ∧ ValsIn kvs val ts ∧ Q (.int (sumV val ts)) H

/-- what a condition is asked of: values, states of handles, the open ones -/
structure Asked where
  val : Str → Int
  st : Str → Option Str
  op : List Str
def stV : Option Str → V
  | none => .non
  | some s => .str s
def atomV (q : Asked) : Atom → Bool
  | .word b w x => decide ((if w = "none" then (q.st x).isNone else if w = "live" then (match q.st x with | none => false | some s => !decide (s = "over")) else decide (x ∈ q.op)) = b)
  | .cmp b s l r => decide (cmpB s (sumV q.val l) (sumV q.val r) = b)
theorem av_none {q : Asked} {b : Bool} {x : Str} : atomV q (.word b "none" x) = decide ((q.st x).isNone = b) := by
  show decide ((if ("none" : Str) = "none" then _ else _) = b) = _
  rw [if_pos rfl]
theorem av_live {q : Asked} {b : Bool} {x : Str} : atomV q (.word b "live" x) = decide ((match q.st x with | none => false | some s => !decide (s = "over")) = b) := by
  show decide ((if ("live" : Str) = "none" then _ else if ("live" : Str) = "live" then _ else _) = b) = _
  rw [if_neg (by decide +kernel), if_pos rfl]
theorem av_open {q : Asked} {b : Bool} {w x : Str} (e1 : ¬ w = "none") (e2 : ¬ w = "live") : atomV q (.word b w x) = decide (decide (x ∈ q.op) = b) := by
  show decide ((if w = "none" then _ else if w = "live" then _ else _) = b) = _
  rw [if_neg e1, if_neg e2]
theorem k_of {Q : VK} {H : Hp} {b c : Bool} (h : Q (.bl b) H) (e : b = c) : Q (.bl c) H := e ▸ h
theorem not_kw {s : Str} (h : s ∈ signs6) : s ≠ "none" ∧ s ≠ "live" ∧ s ≠ "open" := by
  have key : ∀ s ∈ signs6, s ≠ "none" ∧ s ≠ "live" ∧ s ≠ "open" := by decide +kernel
  exact key s h
/-- the dicts at d and e and the list at o hold what q says, as far as a asks -/
def AtomOk (kvs hvs : List (Key × V)) (q : Asked) : Atom → Prop
  | .word _ w x => w ∈ (["none", "live", "open"] : List Str) ∧ (w ≠ "open" → valV hvs (.inr x) = some (stV (q.st x)))
  | .cmp _ s l r => s ∈ signs6 ∧ ValsIn kvs q.val l ∧ ValsIn kvs q.val r

def sp_atom_holds (K : PySem.W.Frag) : Sp := fun vs H Q _ => ∃ (F : Addr → Prop) (t d e o : Addr) (a : Atom) (kvs hvs : List (Key × V)) (q : Asked), vs = [.ref t, .ref d, .ref e, .ref o] ∧ AtomAt F H t a ∧ H d = some (.dK kvs) ∧ H e = some (.dK hvs) ∧ SqL K H o (q.op.map V.str) ∧ AtomOk kvs hvs q a ∧ Q (.bl (atomV q a)) H

def condV (q : Asked) (ps : List (List Atom)) : Bool := ps.any fun p => p.all (atomV q)

def sp_Condition___call__ (K : PySem.W.Frag) : Sp := fun vs H Q _ => ∃ (F : Addr → Prop) (x d e o : Addr) (ps : List (List Atom)) (shown : Str) (kvs hvs : List (Key × V)) (q : Asked), vs = [.ref x, .ref d, .ref e, .ref o] ∧ CondAt K F H x ps shown ∧ H d = some (.dK kvs) ∧ H e = some (.dK hvs) ∧ SqL K H o (q.op.map V.str) ∧ (∀ p ∈ ps, p.length ≤ 10000 ∧ ∀ a ∈ p, AtomOk kvs hvs q a) ∧ ∀ H', Ed [] H H' → Q (.bl (condV q ps)) H'

/-! ### what is written is read: sums, atoms, parts, conditions -/
def numT (n : Int) : Str := (toString n : String)
def Tm.tok : Tm → Str
  | .num n => numT n
  | .nam s => s
def opT (f : Int) : Str := if f = 1 then "+" else "-"
def restT (ts : Terms) : List Str := ts.flatMap fun t => [opT t.1, t.2.tok]
def sumT : Terms → List Str
  | [] => []
  | t :: r => t.2.tok :: restT r
/-- a term that is read as it is written -/
def TmOk (names : List Str) (t : Tm) : Prop := termOf names t.tok = some t
def TsOk (names : List Str) (ts : Terms) : Prop := ts ≠ [] ∧ ts.length ≤ 5 ∧ (∀ t ∈ ts, TmOk names t.2 ∧ (t.1 = 1 ∨ t.1 = -1)) ∧ ∀ t ∈ ts.head?, t.1 = 1
theorem getD_drop {toks xs : List Str} {n : Nat} (h : toks.drop n = xs) (k : Nat) : toks.getD (n + k) "" = xs.getD k "" := by
  subst h
  rw [List.getD_eq_getElem?_getD, List.getD_eq_getElem?_getD, List.getElem?_drop]
theorem pk_drop {toks xs : List Str} {n : Nat} (h : toks.drop n = xs) : pk toks n = xs.headD "" := by
  have := getD_drop h 0
  unfold pk
  rw [Nat.add_zero] at this
  rw [this]
  cases xs <;> rfl
theorem drop_app {toks a b : List Str} {n : Nat} (h : toks.drop n = a ++ b) : toks.drop (n + a.length) = b := by
  rw [← List.drop_drop, h, List.drop_left]
theorem drop_cons {toks b : List Str} {n : Nat} {x : Str} (h : toks.drop n = x :: b) : toks.drop (n + 1) = b := drop_app (a := [x]) h
theorem drop_le {toks a : List Str} {n : Nat} (h : toks.drop n = a) (h0 : a ≠ []) : n + a.length = toks.length := by
  have e : (toks.drop n).length = a.length := by rw [h]
  rw [List.length_drop] at e
  have : a.length ≠ 0 := fun z => h0 (List.length_eq_zero_iff.mp z)
  omega
theorem sign_op {f : Int} (h : f = 1 ∨ f = -1) : signOf (opT f) = f := by
  rcases h with rfl | rfl <;> decide +kernel
theorem isop_op {f : Int} : isOp (opT f) = true := by
  unfold opT
  split <;> decide +kernel
theorem readS_print {names toks : List Str} : ∀ (r : Terms) (t : Tm) (m n : Nat) (f : Int) (acc : Terms) (post : List Str), toks.drop n = t.tok :: restT r ++ post → TmOk names t → (∀ u ∈ r, TmOk names u.2 ∧ (u.1 = 1 ∨ u.1 = -1)) → acc.length + m = 5 → r.length + 1 ≤ m → isOp (post.headD "") = false →
    readS names toks m n f acc = (some (acc ++ (f, t) :: r), n + (1 + (restT r).length))
  | [], t, m, n, f, acc, post, h, h1, h2, h3, h4, h5 => by
    obtain ⟨m, rfl⟩ : ∃ j, m = j + 1 := ⟨m - 1, by simp at h4; omega⟩
    have e0 : toks.getD n "" = t.tok := getD_drop h 0
    have e1 : toks.getD (n + 1) "" = post.headD "" := by rw [getD_drop h 1]; cases post <;> rfl
    unfold readS
    rw [e0, h1]
    dsimp only
    rw [if_pos (.inr (.inl (by rw [e1]; exact h5)))]
    rfl
  | (g, u) :: r, t, m, n, f, acc, post, h, h1, h2, h3, h4, h5 => by
    obtain ⟨m, rfl⟩ : ∃ j, m = j + 1 := ⟨m - 1, by simp at h4; omega⟩
    have e0 : toks.getD n "" = t.tok := getD_drop h 0
    have e1 : toks.getD (n + 1) "" = opT g := getD_drop h 1
    obtain ⟨u1, u2⟩ := h2 _ (List.mem_cons_self ..)
    have hl := drop_le h (List.cons_ne_nil _ _)
    simp only [List.length_cons] at h4
    unfold readS
    rw [e0, h1]
    dsimp only
    rw [if_neg ?_, e1, sign_op u2, readS_print r u m (n + 2) g (acc ++ [(f, t)]) post (drop_app (a := [t.tok, opT g]) h) u1 (fun x hx => h2 x (List.mem_cons_of_mem _ hx)) (by simp; omega) (by omega) h5]
    · rw [List.append_assoc]
      show (some _, _) = (some _, n + (1 + (opT g :: u.tok :: restT r).length))
      simp only [List.length_cons]
      congr 1
      omega
    · rintro (z | z | z)
      · simp [restT] at hl; omega
      · rw [e1, isop_op] at z; cases z
      · omega
theorem sumR_print {names toks post : List Str} {ts : Terms} {n : Nat} (h : toks.drop n = sumT ts ++ post) (ok : TsOk names ts) (hp : isOp (post.headD "") = false) : sumR names toks n = .ok (ts, n + (sumT ts).length) := by
  obtain ⟨h0, h1, h2, h3⟩ := ok
  cases ts with
  | nil => exact absurd rfl h0
  | cons t r =>
    obtain ⟨f, t⟩ := t
    obtain rfl : f = 1 := h3 _ rfl
    unfold sumR
    rw [readS_print r t 5 n 1 [] post h (h2 _ (List.mem_cons_self ..)).1 (fun x hx => h2 x (List.mem_cons_of_mem _ hx)) rfl h1 hp]
    show Except.ok _ = _
    simp only [sumT, List.length_cons, List.nil_append]
    congr 2
    omega
/-- an atom as it is written behind its nots -/
def Atom.toks : Atom → List Str
  | .word _ w x => [w, x]
  | .cmp _ s l r => sumT l ++ (s :: sumT r)
def Atom.sign : Atom → Bool
  | .word b _ _ => b
  | .cmp b _ _ _ => b
def nWords : List Str := ["not", "none", "live", "open", "and", "or", "", "+", "-"]
theorem nw1 : ∀ w ∈ (["none", "live"] : List Str), w ∈ nWords := by decide +kernel
theorem nw2 : ∀ w ∈ (["open"] : List Str), w ∈ nWords := by decide +kernel
def AtOk (l : Rdl) : Atom → Prop
  | .word _ w x => (w ∈ (["none", "live"] : List Str) ∧ x ∈ l.hs) ∨ (w = "open" ∧ x ∈ l.rs)
  | .cmp _ s a b => s ∈ signs6 ∧ TsOk l.names a ∧ TsOk l.names b ∧ (sumT a).headD "" ∉ nWords
theorem nots_print {toks : List Str} : ∀ (k f n : Nat) (b : Bool) (rest : List Str), toks.drop n = List.replicate k ("not" : Str) ++ rest → rest.headD "" ≠ "not" → k < f → nots toks f n b = (n + k, if k % 2 = 0 then b else !b)
  | 0, f, n, b, rest, h, h1, h2 => by
    obtain ⟨f, rfl⟩ : ∃ j, f = j + 1 := ⟨f - 1, by omega⟩
    unfold nots
    rw [if_neg (by rw [pk_drop h]; exact h1)]
    rfl
  | k + 1, f, n, b, rest, h, h1, h2 => by
    obtain ⟨f, rfl⟩ : ∃ j, f = j + 1 := ⟨f - 1, by omega⟩
    have e : toks.drop (n + 1) = List.replicate k ("not" : Str) ++ rest := drop_cons (x := "not") h
    unfold nots
    rw [if_pos (by rw [pk_drop h]; rfl), nots_print k f (n + 1) (!b) rest e h1 (by omega)]
    have : n + 1 + k = n + (k + 1) := by omega
    rw [this]
    congr 1
    rcases Nat.mod_two_eq_zero_or_one k with q | q
    · rw [if_pos q, if_neg (by omega)]
    · rw [if_neg (by omega), if_pos (by omega), Bool.not_not]
theorem takeR_print {al toks post : List Str} {n : Nat} {x : Str} (h : toks.drop n = x :: post) (hx : x ∈ al) : takeR al toks n = .ok (x, n + 1) := by
  unfold takeR
  rw [pk_drop h]
  show (if x ∈ al then _ else _) = _
  rw [if_pos hx]; rfl
theorem atomB_print {l : Rdl} {n : Nat} {a : Atom} {post : List Str} (h : l.toks.drop n = a.toks ++ post) (ok : AtOk l a) (hp : isOp (post.headD "") = false) : atomB l a.sign n = .ok (a, n + a.toks.length) := by
  cases a with
  | word b w x =>
    have h : l.toks.drop n = w :: x :: post := h
    have e := pk_drop h
    have e : pk l.toks n = w := e
    have t : ∀ al : List Str, x ∈ al → takeR al l.toks (n + 1) = .ok (x, n + 2) := fun al hx => takeR_print (drop_cons h) hx
    unfold atomB
    rw [e]
    rcases ok with ⟨hw, hx⟩ | ⟨rfl, hx⟩
    · rw [if_pos ⟨hw, fun z => by rw [z] at hx; cases hx⟩, t _ hx]
      rfl
    · rw [if_neg (fun z => absurd z.1 (by decide +kernel)), if_pos ⟨by decide +kernel, fun z => by rw [z] at hx; cases hx⟩, t _ hx]
      rfl
  | cmp b s x y =>
    obtain ⟨hs, hx, hy, hn⟩ := ok
    have h : l.toks.drop n = sumT x ++ (s :: sumT y) ++ post := h
    rw [List.append_assoc] at h
    have e : pk l.toks n = (sumT x).headD "" := by
      rw [pk_drop h]
      cases x with
      | nil => exact absurd rfl hx.1
      | cons t r => rfl
    have hnone : ¬ pk l.toks n ∈ (["none", "live"] : List Str) := fun z => hn (by rw [e] at z; exact nw1 _ z)
    have hopen : ¬ pk l.toks n ∈ (["open"] : List Str) := fun z => hn (by rw [e] at z; exact nw2 _ z)
    have key : ∀ s ∈ signs6, isOp s = false := by decide +kernel
    have d2 := drop_app h
    have d2 : l.toks.drop (n + (sumT x).length) = s :: (sumT y ++ post) := d2
    unfold atomB
    rw [if_neg (fun z => hnone z.1), if_neg (fun z => hopen z.1), sumR_print h hx (key s hs)]
    dsimp only
    rw [takeR_print d2 hs]
    dsimp only
    rw [sumR_print (drop_cons d2) hy hp]
    show Except.ok _ = Except.ok _
    simp only [Atom.toks, Atom.sign, List.length_append, List.length_cons]
    congr 2
    omega
theorem at_head {l : Rdl} {a : Atom} {post : List Str} (ok : AtOk l a) : (a.toks ++ post).headD "" ≠ "not" := by
  cases a with
  | word b w x =>
    show w ≠ "not"
    rcases ok with ⟨hw, _⟩ | ⟨rfl, _⟩
    · rintro rfl
      revert hw
      decide +kernel
    · decide +kernel
  | cmp b s x y =>
    obtain ⟨_, hx, _, hn⟩ := ok
    intro z
    apply hn
    have e : (sumT x).headD "" = "not" := by
      rw [← z]
      cases x with
      | nil => exact absurd rfl hx.1
      | cons t r => rfl
    rw [e]
    decide +kernel
/-- k nots and an atom -/
def naT (a : Nat × Atom) : List Str := List.replicate a.1 ("not" : Str) ++ a.2.toks
def NaOk (l : Rdl) (a : Nat × Atom) : Prop := AtOk l a.2 ∧ a.2.sign = decide (a.1 % 2 = 0)
theorem atomR_print {l : Rdl} {n : Nat} {a : Nat × Atom} {post : List Str} (h : l.toks.drop n = naT a ++ post) (ok : NaOk l a) (hp : isOp (post.headD "") = false) : atomR l n = .ok (a.2, n + (naT a).length) := by
  obtain ⟨k, a⟩ := a
  obtain ⟨ok, hb⟩ := ok
  have h : l.toks.drop n = List.replicate k ("not" : Str) ++ a.toks ++ post := h
  rw [List.append_assoc] at h
  have ha : a.toks ≠ [] := by
    cases a with
    | word b w x => exact List.cons_ne_nil _ _
    | cmp b s x y => simp [Atom.toks]
  have hl := drop_le h (by simp [ha])
  have hnt := nots_print k (l.toks.length + 1) n true _ h (at_head ok) (by simp at hl; omega)
  have hn2 : nots l.toks (l.toks.length + 1) n true = (n + k, a.sign) := by
    rw [hnt]
    have hb : a.sign = decide (k % 2 = 0) := hb
    rw [hb]
    by_cases q : k % 2 = 0
    · rw [if_pos q, decide_eq_true q]
    · rw [if_neg q, decide_eq_false q]; rfl
  unfold atomR
  rw [hn2]
  have d := drop_app h
  rw [List.length_replicate] at d
  rw [atomB_print d ok hp]
  simp only [naT, List.length_append, List.length_replicate]
  congr 2
  omega
theorem moreR_print {α β : Type} {sep : Str} {one : Nat → Except Nat (α × Nat)} {toks : List Str} {pr : β → List Str} {val : β → α} {ok : β → Prop} {Fol : Str → Prop} (h1 : ∀ b n post, ok b → toks.drop n = pr b ++ post → Fol (post.headD "") → one n = .ok (val b, n + (pr b).length)) (hs : Fol sep) : ∀ (xs : List β) (f n : Nat) (acc : List α) (post : List Str), (∀ x ∈ xs, ok x) → toks.drop n = xs.flatMap (fun x => sep :: pr x) ++ post → post.headD "" ≠ sep → Fol (post.headD "") → xs.length < f →
    moreR sep one toks f acc n = .ok (acc ++ xs.map val, n + (xs.flatMap fun x => sep :: pr x).length)
  | [], f, n, acc, post, _, h, h2, _, h4 => by
    obtain ⟨f, rfl⟩ : ∃ j, f = j + 1 := ⟨f - 1, by omega⟩
    unfold moreR
    rw [if_neg (by rw [pk_drop h]; exact h2)]
    simp
  | x :: xs, f, n, acc, post, hok, h, h2, h3, h4 => by
    obtain ⟨f, rfl⟩ : ∃ j, f = j + 1 := ⟨f - 1, by omega⟩
    have h : toks.drop n = sep :: (pr x ++ (xs.flatMap (fun x => sep :: pr x) ++ post)) := by
      rw [h]; simp
    have d := drop_cons h
    have hf : Fol ((xs.flatMap (fun x => sep :: pr x) ++ post).headD "") := by
      cases xs with
      | nil => exact h3
      | cons y r => exact hs
    unfold moreR
    rw [if_pos (by rw [pk_drop h]; rfl), h1 x (n + 1) _ (hok x (List.mem_cons_self ..)) d hf]
    dsimp only
    rw [moreR_print h1 hs xs f _ _ post (fun y hy => hok y (List.mem_cons_of_mem _ hy)) (drop_app d) h2 h3 (by simp at h4; omega)]
    simp only [List.map_cons, List.flatMap_cons, List.length_append, List.length_cons, List.append_assoc, List.singleton_append]
    congr 2
    omega
/-- items with sep between -/
def sepT {β : Type} (sep : Str) (pr : β → List Str) : List β → List Str
  | [] => []
  | x :: r => pr x ++ r.flatMap fun y => sep :: pr y
theorem flat_len {β : Type} {sep : Str} {pr : β → List Str} : ∀ r : List β, r.length ≤ (r.flatMap fun y => sep :: pr y).length
  | [] => Nat.zero_le _
  | y :: r => by
    have := flat_len (sep := sep) (pr := pr) r
    simp only [List.flatMap_cons, List.length_append, List.length_cons]
    omega
theorem manyR_print {α β : Type} {sep : Str} {one : Nat → Except Nat (α × Nat)} {toks : List Str} {pr : β → List Str} {val : β → α} {ok : β → Prop} {Fol : Str → Prop} (h1 : ∀ b n post, ok b → toks.drop n = pr b ++ post → Fol (post.headD "") → one n = .ok (val b, n + (pr b).length)) (hs : Fol sep) {xs : List β} {n : Nat} {post : List Str} (h0 : xs ≠ []) (hok : ∀ x ∈ xs, ok x) (h : toks.drop n = sepT sep pr xs ++ post) (h2 : post.headD "" ≠ sep) (h3 : Fol (post.headD "")) :
    manyR sep one toks n = .ok (xs.map val, n + (sepT sep pr xs).length) := by
  cases xs with
  | nil => exact absurd rfl h0
  | cons x r =>
    have h : toks.drop n = pr x ++ (r.flatMap (fun y => sep :: pr y) ++ post) := by rw [h]; simp [sepT]
    have hf : Fol ((r.flatMap (fun x => sep :: pr x) ++ post).headD "") := by
      cases r with
      | nil => exact h3
      | cons y r => exact hs
    unfold manyR
    rw [h1 x n _ (hok x (List.mem_cons_self ..)) h hf]
    dsimp only
    have d := drop_app h
    have hl : r.length < toks.length + 1 := by
      have e : (toks.drop (n + (pr x).length)).length = _ := congrArg List.length d
      have q := flat_len (sep := sep) (pr := pr) r
      rw [List.length_drop, List.length_append] at e
      omega
    rw [moreR_print h1 hs r _ _ _ post (fun y hy => hok y (List.mem_cons_of_mem _ hy)) d h2 h3 hl]
    simp only [List.map_cons, List.singleton_append, sepT, List.length_append]
    congr 2
    omega
def partT : List (Nat × Atom) → List Str := sepT "and" naT
def condT : List (List (Nat × Atom)) → List Str := sepT "or" partT
def valC (ps : List (List (Nat × Atom))) : List (List Atom) := ps.map fun p => p.map Prod.snd
def CdOk (l : Rdl) (ps : List (List (Nat × Atom))) : Prop := ps ≠ [] ∧ ∀ p ∈ ps, p ≠ [] ∧ ∀ a ∈ p, NaOk l a
theorem partR_print {l : Rdl} {n : Nat} {p : List (Nat × Atom)} {post : List Str} (h0 : p ≠ [] ∧ ∀ a ∈ p, NaOk l a) (h : l.toks.drop n = partT p ++ post) (hp : post.headD "" ≠ "and" ∧ isOp (post.headD "") = false) : partR l n = .ok (p.map Prod.snd, n + (partT p).length) :=
  manyR_print (Fol := fun s => isOp s = false) (val := Prod.snd) (ok := NaOk l) (fun b n post ok h hf => atomR_print h ok hf) (by decide +kernel) h0.1 h0.2 h hp.1 hp.2
theorem condR_print {l : Rdl} {ps : List (List (Nat × Atom))} (ok : CdOk l ps) (h : l.toks = condT ps) : condR l 0 = .ok (valC ps, l.toks.length) := by
  have := manyR_print (sep := "or") (one := partR l) (toks := l.toks) (pr := partT) (val := fun p : List (Nat × Atom) => p.map Prod.snd) (ok := fun p => p ≠ [] ∧ ∀ a ∈ p, NaOk l a) (Fol := fun s => s ≠ "and" ∧ isOp s = false) (fun b n post ok h hf => partR_print ok h hf) (by decide +kernel) (xs := ps) (n := 0) (post := []) ok.1 ok.2 (by rw [List.drop_zero, h, List.append_nil]; rfl) (by decide +kernel) (by decide +kernel)
  rw [show sepT "or" partT ps = l.toks from h.symm, Nat.zero_add] at this
  exact this
theorem initC_print {l : Rdl} {ps : List (List (Nat × Atom))} (ok : CdOk l ps) (h : l.toks = condT ps) : initC l = .ok (valC ps) := by
  unfold initC
  rw [condR_print ok h]
  dsimp only
  rw [if_neg (Nat.lt_irrefl _)]
/-! ### texts with one space between tokens -/
def spc : List Str → Str := Str.join " "
theorem spc_cons {x : Str} {r : List Str} (h : r ≠ []) : spc (x :: r) = x ++ " " ++ spc r := by
  cases r with
  | nil => exact absurd rfl h
  | cons y r => rfl
theorem app_assoc (a b c : Str) : a ++ b ++ c = a ++ (b ++ c) := str_eq (by simp [Str.cps_append])
theorem app_empty (a : Str) : a ++ ("" : Str) = a := str_eq (by rw [Str.cps_append, show (("" : Str)).cps = #[] from rfl, Array.append_empty])
theorem app_empty' (a : Str) : ("" : Str) ++ a = a := str_eq (by rw [Str.cps_append, show (("" : Str)).cps = #[] from rfl, Array.empty_append])
theorem spc_app {a b : List Str} (ha : a ≠ []) (hb : b ≠ []) : spc (a ++ b) = spc a ++ " " ++ spc b := by
  induction a with
  | nil => exact absurd rfl ha
  | cons x r ih =>
    cases r with
    | nil => exact spc_cons hb
    | cons y r =>
      rw [List.cons_append, spc_cons (by simp), ih (by simp), spc_cons (x := x) (r := y :: r) (by simp)]
      simp only [app_assoc]
/-- " sep ".join of spaced texts -/
theorem spc_sep {β : Type} {sep s3 : Str} {pr : β → List Str} (h3 : s3 = " " ++ sep ++ " ") : ∀ xs : List β, (∀ x ∈ xs, pr x ≠ []) → Str.join s3 (xs.map fun x => spc (pr x)) = spc (sepT sep pr xs)
  | [], _ => rfl
  | [x], _ => by
    show spc (pr x) = spc (pr x ++ [])
    rw [List.append_nil]
  | x :: y :: r, h => by
    have ih := spc_sep h3 (y :: r) fun z hz => h z (List.mem_cons_of_mem _ hz)
    have hx := h x (List.mem_cons_self ..)
    have hy := h y (List.mem_cons_of_mem _ (List.mem_cons_self ..))
    rw [List.map_cons] at ih
    rw [List.map_cons, List.map_cons, join_cons2, ih]
    have e : sepT sep pr (x :: y :: r) = pr x ++ (sep :: sepT sep pr (y :: r)) := by simp [sepT]
    have ne : sepT sep pr (y :: r) ≠ [] := by simp [sepT, hy]
    rw [e, spc_app hx (by simp), spc_cons ne, h3]
    simp only [app_assoc]
theorem words_spc {toks : List Str} (h : ∀ t ∈ toks, Tk t) : Txt.words (spc toks) = toks := by
  have := words_join0 (sep := " ") (tail := "") (by unfold Bl; decide) (by decide) (by unfold Bl; decide) h
  rwa [app_empty] at this
theorem join_txt (a : Str) (xs : List Str) : Txt.join a xs = Str.join a xs := StrLaws.glued_eq_join _ _
theorem fold_cps (x : Array Nat) : ∀ (n : Nat) (acc : Array Nat), (List.replicate n x).foldl (fun a b => a ++ b) acc = acc ++ (List.replicate n x).foldl (fun a b => a ++ b) #[]
  | 0, acc => by simp
  | n + 1, acc => by
    rw [List.replicate_succ, List.foldl_cons, List.foldl_cons, fold_cps x n, fold_cps x n (#[] ++ x)]
    simp
def rep (x : Str) : Nat → Str
  | 0 => ""
  | n + 1 => x ++ rep x n
theorem rep_cps (x : Str) : ∀ n : Nat, (rep x n).cps = (List.replicate n x.cps).foldl (fun a b => a ++ b) #[]
  | 0 => rfl
  | n + 1 => by
    rw [List.replicate_succ, List.foldl_cons, fold_cps, ← rep_cps x n]
    show (x ++ rep x n).cps = _
    rw [Str.cps_append]
    simp
theorem mul_rep {x : Str} {n : Int} (h0 : 0 ≤ n) : Txt.mul x n = rep x n.toNat := by
  obtain ⟨m, rfl⟩ : ∃ m : Nat, n = (m : Nat) := ⟨n.toNat, by omega⟩
  rw [Int.toNat_natCast]
  unfold Txt.mul
  by_cases h1 : (m : Int) < 1
  · rw [if_pos h1]
    obtain rfl : m = 0 := by omega
    rfl
  · rw [if_neg h1]
    split
    · rename_i h2
      simp only [Bool.or_eq_true, beq_iff_eq] at h2
      rcases h2 with h2 | h2
      · obtain rfl : m = 1 := by omega
        show x = x ++ ("" : Str)
        rw [app_empty]
      · have hx : x = "" := by
          have : x.cps.size = 0 := h2
          exact Str.ext' (Array.eq_empty_of_size_eq_zero this)
        subst hx
        clear h1 h2 h0
        induction m with
        | zero => rfl
        | succ m ih => show ("" : Str) = "" ++ rep "" m; rw [← ih]; rfl
    · exact Str.ext' (by rw [rep_cps, Int.toNat_natCast])
theorem rep_spc {x : Str} {r : List Str} (hr : r ≠ []) : ∀ n : Nat, rep (x ++ " ") n ++ spc r = spc (List.replicate n x ++ r)
  | 0 => app_empty' _
  | n + 1 => by
    rw [List.replicate_succ, List.cons_append, spc_cons (by simp [hr]), ← rep_spc hr n]
    show x ++ " " ++ rep (x ++ " ") n ++ spc r = _
    simp only [app_assoc]
theorem mulOk_small {x : Str} {n : Int} (h0 : 0 ≤ n) (h1 : n ≤ 1000) (hx : x.length ≤ 1000) : MulOk x n := by
  refine ⟨by simp; omega, fun h2 _ => ?_, fun h2 _ => ?_⟩
  · have hpos : 0 < n := by omega
    have hle : (2 ^ 63 - 1 : Int) / 1000 ≤ (2 ^ 63 - 1) / n := by
      apply Int.le_ediv_of_mul_le hpos
      have : (2 ^ 63 - 1 : Int) / 1000 * n ≤ (2 ^ 63 - 1) / 1000 * 1000 := Int.mul_le_mul_of_nonneg_left h1 (by decide)
      omega
    have : (2 ^ 63 - 1 : Int) / 1000 = 9223372036854775 := by decide
    omega
  · unfold Builtin.Str.tooLong
    have : x.length * n.toNat ≤ 1000 * 1000 := Nat.mul_le_mul hx (by omega)
    simp [sizeLine_eq]
    omega


theorem rep_len (x : Str) : ∀ n : Nat, (rep x n).length = n * x.length
  | 0 => by rw [Nat.zero_mul]; rfl
  | n + 1 => by
    show (x ++ rep x n).length = _
    rw [Str.length_append, rep_len x n, Nat.add_mul, Nat.one_mul, Nat.add_comm]
theorem call_cond {K : PySem.W.Frag} {H : Hp} {Q : VK} {E : XK} {x dx q h k : Addr} {text : Str} {names hs rs : List Str} {ps : List (List (Nat × Atom))} (hx : H x = some (.ins (He.ga K "Condition") dx [])) (hq : SqL K H q (names.map V.str)) (hh : SqL K H h (hs.map V.str)) (hk : SqL K H k (rs.map V.str)) (hw : Txt.words text = condT ps) (hl : text.length ≤ 10000) (ok : CdOk ⟨condT ps, names, hs, rs⟩ ps)
    (kQ : ∀ H', Sx [x] H H' → CondAt K (fun a => H a = none) H' x (valC ps) (spc (condT ps)) → Q .non H') : sp_Condition___init__ K [.ref x, .str text, .ref q, .ref h, .ref k] H Q E := by
  have hi := initC_print (l := ⟨condT ps, names, hs, rs⟩) ok rfl
  refine ⟨x, dx, q, h, k, text, ⟨condT ps, names, hs, rs⟩, rfl, hx, hq, hh, hk, hw.symm, hl, fun e he => ?_, fun ps' hps H' s hC => ?_⟩
  · rw [hi] at he; cases he
  · rw [hi] at hps
    cases hps
    rw [join_txt] at hC
    exact kQ H' s hC


def numB (d : Nat) : Bool := let t := numT (d : Int); isNum t && decide (numVal t = (d : Int)) && decide (t.length ≤ 3) && (!t.cps.toList.isEmpty && t.cps.toList.all fun c => decide (48 ≤ c) && decide (c ≤ 57))
theorem numB_all : ∀ d : Nat, d < 1000 → numB d = true := by decide +kernel
theorem num_ok {d : Int} (h0 : 0 ≤ d) (h1 : d < 1000) : isNum (numT d) = true ∧ numVal (numT d) = d ∧ (numT d).length ≤ 3 ∧ (numT d).cps.toList ≠ [] ∧ ∀ c ∈ (numT d).cps.toList, 48 ≤ c ∧ c ≤ 57 := by
  have h := numB_all d.toNat (by omega)
  unfold numB at h
  rw [show ((d.toNat : Nat) : Int) = d by omega] at h
  simp only [Bool.and_eq_true, decide_eq_true_eq, Bool.not_eq_true', List.isEmpty_eq_false_iff, List.all_eq_true] at h
  exact ⟨h.1.1.1, h.1.1.2, h.1.2, h.2.1, h.2.2⟩
theorem num_tk {d : Int} (h0 : 0 ≤ d) (h1 : d < 1000) : Tk (numT d) := ⟨(num_ok h0 h1).2.2.2.1, fun c hc => by
  have := (num_ok h0 h1).2.2.2.2 c hc
  omega⟩
theorem num_nw {d : Int} (h0 : 0 ≤ d) (h1 : d < 1000) : numT d ∉ nWords := fun z => by
  obtain ⟨_, _, _, hne, hc⟩ := num_ok h0 h1
  have key : ∀ w ∈ nWords, w.cps.toList = [] ∨ ∃ c ∈ w.cps.toList, ¬ (48 ≤ c ∧ c ≤ 57) := by decide +kernel
  rcases key _ z with h | ⟨c, h1, h2⟩
  · exact hne h
  · exact h2 (hc c h1)
theorem num_term {names : List Str} {d : Int} (h0 : 0 ≤ d) (h1 : d < 1000) (hn : numT d ∉ names) : TmOk names (.num d) := by
  unfold TmOk termOf
  show (if numT d ∈ names then _ else _) = _
  obtain ⟨h2, h3, _⟩ := num_ok h0 h1
  show (if numT d ∈ names then some (Tm.nam (numT d)) else if isNum (numT d) = true then some (.num (numVal (numT d))) else none) = _
  rw [if_neg hn, if_pos h2, h3]
theorem tk_by {t : Str} (h : (!t.cps.toList.isEmpty && t.cps.toList.all fun c => decide (33 ≤ c) && decide (c ≤ 126)) = true) : Tk t := by
  simp only [Bool.and_eq_true, Bool.not_eq_true', List.isEmpty_eq_false_iff, List.all_eq_true, decide_eq_true_eq] at h
  exact ⟨h.1, h.2⟩
theorem sepT_mem {β : Type} {sep t : Str} {pr : β → List Str} {xs : List β} (h : t ∈ sepT sep pr xs) : t = sep ∨ ∃ x ∈ xs, t ∈ pr x := by
  cases xs with
  | nil => simp [sepT] at h
  | cons x r =>
    simp only [sepT, List.mem_append, List.mem_flatMap, List.mem_cons] at h
    rcases h with h | ⟨y, hy, h | h⟩
    · exact .inr ⟨x, List.mem_cons_self .., h⟩
    · exact .inl h
    · exact .inr ⟨y, List.mem_cons_of_mem _ hy, h⟩


def tmD : Tm → PyData
  | .num n => .int n
  | .nam s => .str s
def termD (t : Int × Tm) : PyData := .tuple [.str (opT t.1), tmD t.2]
/-- a term as the laws draw it -/
def TmW (names : List Str) : Tm → Prop
  | .num n => 0 ≤ n ∧ n < 1000
  | .nam s => s ∈ names
def TsW (names : List Str) (many : Nat) (ts : Terms) : Prop := ts ≠ [] ∧ ts.length ≤ many ∧ (∀ t ∈ ts, TmW names t.2 ∧ (t.1 = 1 ∨ t.1 = -1)) ∧ ∀ t ∈ ts.head?, t.1 = 1

def sp_law_terms (K : PySem.W.Frag) : Sp := fun vs H Q _ => ∃ (W : List Addr) (b q : Addr) (names : List Str) (many : Nat), vs = [.ref b, .ref q, .int (many : Nat)] ∧ Bag H b ∧ b ∈ W ∧ Wl W H ∧ Df W H (.ref q) (.list (names.map PyData.str)) ∧ names.length ≤ 1000 ∧ 0 < many ∧ many ≤ 5 ∧
  ∀ p ts H', H p = none → Ed [b] H H' → Bag H' b → Df W H' (.ref p) (.list (ts.map termD)) → TsW names many ts → Q (.ref p) H'

def TmS : Tm → Prop
  | .num n => 0 ≤ n ∧ n < 1000
  | .nam s => s.length ≤ 8
theorem tok_len {t : Tm} (h : TmS t) : t.tok.length ≤ 8 := by
  cases t with
  | num n => exact Nat.le_trans (num_ok h.1 h.2).2.2.1 (by decide)
  | nam s => exact h
theorem g_strT {W : List Addr} {H : Hp} {v : V} {t : Tm} {Q : VK} (h : Df W H v (tmD t)) (hs : TmS t) (k : Q (.str t.tok) H) : dStr [v] H Q := by
  cases t with
  | num n =>
    have h : Df W H v (.int n) := h
    obtain rfl := h.isInt
    exact g_str_i (log2_1000 hs.1 (by have := hs.2; omega)) k
  | nam s =>
    have h : Df W H v (.str s) := h
    obtain rfl := h.isStr
    exact g_str_s k
theorem cells2 {W : List Addr} {H : Hp} {xs : List V} {s : Str} {d : PyData} (h : DfAll W H xs [.str s, d]) : ∃ v, xs = [.str s, v] ∧ Df W H v d := by
  cases h with
  | cons h1 r =>
    cases r with
    | cons h2 r2 =>
      cases r2
      rw [h1.isStr]
      exact ⟨_, rfl, h2⟩
/-- the i-th piece of a sum's text -/
def pcT (i : Nat) (t : Int × Tm) : Str := (if i = 0 then ("" : Str) else opT t.1 ++ " ") ++ t.2.tok
theorem op_len {f : Int} : (opT f).length = 1 := by
  unfold opT
  split <;> rfl
theorem join_pre (s a b : Str) : ∀ l : List Str, Str.join s ((a ++ b) :: l) = a ++ Str.join s (b :: l)
  | [] => rfl
  | x :: r => by rw [join_cons2, join_cons2]; simp only [app_assoc]
theorem join_rest : ∀ (r : Terms) (x : Str), Str.join " " (x :: r.map fun t => opT t.1 ++ " " ++ t.2.tok) = spc (x :: restT r)
  | [], x => rfl
  | t :: r, x => by
    rw [List.map_cons, join_cons2, join_pre, join_rest r]
    show _ = spc (x :: opT t.1 :: (t.2.tok :: restT r))
    rw [spc_cons (x := x) (r := opT t.1 :: t.2.tok :: restT r) (by simp), spc_cons (x := opT t.1) (r := t.2.tok :: restT r) (by simp)]
theorem join_sum (ts : Terms) : Str.join " " (ts.mapIdx pcT) = spc (sumT ts) := by
  cases ts with
  | nil => rfl
  | cons t r =>
    rw [List.mapIdx_cons]
    have e : r.mapIdx (fun i => pcT (i + 1)) = r.map fun t => opT t.1 ++ " " ++ t.2.tok := by
      refine List.ext_getElem (by simp) fun i h1 h2 => ?_
      rw [List.getElem_mapIdx, List.getElem_map]
      unfold pcT
      rw [if_neg (by omega)]
    rw [e]
    have e0 : pcT 0 t = t.2.tok := app_empty' _
    rw [e0, join_rest]
    rfl
theorem mapIdx_take {α β : Type} {l : List α} {f : Nat → α → β} {i : Nat} {x : α} (h : l[i]? = some x) : (l.take (i + 1)).mapIdx f = (l.take i).mapIdx f ++ [f i x] := by
  have hi : i < l.length := (List.getElem?_eq_some_iff.mp h).1
  rw [List.take_succ, h]
  show (l.take i ++ [x]).mapIdx f = _
  rw [List.mapIdx_concat, List.length_take, Nat.min_eq_left (by omega)]

def sp_law_sum_text (K : PySem.W.Frag) : Sp := fun vs H Q _ => ∃ (W : List Addr) (p : Addr) (ts : Terms), vs = [.ref p] ∧ Df W H (.ref p) (.list (ts.map termD)) ∧ Wl W H ∧ ts.length ≤ 5 ∧ (∀ t ∈ ts, TmS t.2) ∧ ∀ H', Ed [] H H' → Q (.str (spc (sumT ts))) H'

def naD : Nat × Atom → PyData
  | (n, .word _ w x) => .tuple [.int (n : Nat), .str w, .str x, .list []]
  | (n, .cmp _ s l r) => .tuple [.int (n : Nat), .str s, .list (l.map termD), .list (r.map termD)]
/-- an atom as the laws draw it -/
def NaW (names hs rs : List Str) (a : Nat × Atom) : Prop := a.1 ≤ 2 ∧ a.2.sign = decide (a.1 % 2 = 0) ∧ match a.2 with
  | .word _ w x => (w ∈ (["none", "live"] : List Str) ∧ x ∈ hs) ∨ (w = "open" ∧ x ∈ rs)
  | .cmp _ s l r => s ∈ signs6 ∧ TsW names 2 l ∧ TsW names 2 r
def words9 : List Str := ["none", "live", "open", "=", "!=", "<", "<=", ">", ">="]
theorem word9s : ∀ w ∈ words9, w ∉ (["none", "live", "open"] : List Str) → w ∈ signs6 := by decide +kernel
theorem strs_nil {xs : List Str} : (xs.map PyData.str).isEmpty = decide (xs = []) := by cases xs <;> simp
theorem call_terms {K : PySem.W.Frag} {H : Hp} {Q : VK} {E : XK} {W : List Addr} {b q : Addr} {names : List Str} {many : Nat} {m : Int} (hm : m = (many : Nat)) (hb : Bag H b) (hbW : b ∈ W) (hw : Wl W H) (dq : Df W H (.ref q) (.list (names.map PyData.str))) (hnl : names.length ≤ 1000) (hm0 : 0 < many) (hm5 : many ≤ 5)
    (k : ∀ p ts H', H p = none → Ed [b] H H' → Bag H' b → Df W H' (.ref p) (.list (ts.map termD)) → TsW names many ts → Q (.ref p) H') : sp_law_terms K [.ref b, .ref q, .int m] H Q E := by
  subst hm
  exact ⟨W, b, q, names, many, rfl, hb, hbW, hw, dq, hnl, hm0, hm5, k⟩

def sp_law_atom (K : PySem.W.Frag) : Sp := fun vs H Q _ => ∃ (W : List Addr) (b q h r : Addr) (names hs rs : List Str), vs = [.ref b, .ref q, .ref h, .ref r] ∧ Bag H b ∧ b ∈ W ∧ Wl W H ∧ Df W H (.ref q) (.list (names.map PyData.str)) ∧ Df W H (.ref h) (.list (hs.map PyData.str)) ∧ Df W H (.ref r) (.list (rs.map PyData.str)) ∧ names.length ≤ 1000 ∧ hs.length ≤ 1000 ∧ rs.length ≤ 1000 ∧ Sok hs ∧ Sok rs ∧
  ∀ v a H', Ed [b] H H' → Bag H' b → Df W H' v (naD a) → NaW names hs rs a → Q v H'

def partD (p : List (Nat × Atom)) : PyData := .list (p.map naD)
def PtW (names hs rs : List Str) (most : Nat) (p : List (Nat × Atom)) : Prop := p ≠ [] ∧ p.length ≤ most ∧ ∀ a ∈ p, NaW names hs rs a
def CdW (names hs rs : List Str) (most : Nat) (ps : List (List (Nat × Atom))) : Prop := ps ≠ [] ∧ ps.length ≤ most ∧ ∀ p ∈ ps, PtW names hs rs most p
def sp_law_condition (K : PySem.W.Frag) : Sp := fun vs H Q _ => ∃ (W : List Addr) (b q h r : Addr) (names hs rs : List Str) (most : Nat), vs = [.ref b, .ref q, .ref h, .ref r, .int (most : Nat)] ∧ Bag H b ∧ b ∈ W ∧ Wl W H ∧ Df W H (.ref q) (.list (names.map PyData.str)) ∧ Df W H (.ref h) (.list (hs.map PyData.str)) ∧ Df W H (.ref r) (.list (rs.map PyData.str)) ∧ names.length ≤ 1000 ∧ hs.length ≤ 1000 ∧ rs.length ≤ 1000 ∧ Sok hs ∧ Sok rs ∧ 0 < most ∧ most ≤ 10 ∧
  ∀ p ps H', H p = none → Ed [b] H H' → Bag H' b → Df W H' (.ref p) (.list (ps.map partD)) → CdW names hs rs most ps → Q (.ref p) H'

/-- what the texts ask of an atom -/
def NaS (a : Nat × Atom) : Prop := a.1 ≤ 2 ∧ match a.2 with
  | .word _ w x => w.length ≤ 4 ∧ x.length ≤ 8
  | .cmp _ s l r => s.length ≤ 2 ∧ l ≠ [] ∧ r ≠ [] ∧ l.length ≤ 5 ∧ r.length ≤ 5 ∧ (∀ t ∈ l, TmS t.2) ∧ ∀ t ∈ r, TmS t.2
theorem sumT_ne {ts : Terms} (h : ts ≠ []) : sumT ts ≠ [] := by
  cases ts with
  | nil => exact absurd rfl h
  | cons t r => simp [sumT]
theorem sumT_len {ts : Terms} (h : ts.length ≤ 5) (hs : ∀ t ∈ ts, TmS t.2) : (spc (sumT ts)).length ≤ 60 := by
  rw [← join_sum]
  have hll : ∀ t ∈ ts.mapIdx pcT, t.length ≤ 10 := fun t ht => by
    obtain ⟨i, hi, rfl⟩ := List.mem_mapIdx.mp ht
    have h1 := tok_len (hs _ (List.getElem_mem hi))
    have h2 := op_len (f := (ts[i]).1)
    unfold pcT
    rw [Str.length_append]
    split
    · rw [show (("" : Str)).length = 0 from rfl]; omega
    · rw [Str.length_append, h2, show ((" " : Str)).length = 1 from rfl]; omega
  have := join_len_le " " 10 _ hll
  rw [List.length_mapIdx, show ((" " : Str)).length = 1 from rfl] at this
  omega
theorem cells4 {W : List Addr} {H : Hp} {xs : List V} {n : Int} {s : Str} {d e : PyData} (h : DfAll W H xs [.int n, .str s, d, e]) : ∃ v w, xs = [.int n, .str s, v, w] ∧ Df W H v d ∧ Df W H w e := by
  cases h with
  | cons h1 r =>
    cases r with
    | cons h2 r =>
      cases r with
      | cons h3 r =>
        cases r with
        | cons h4 r =>
          cases r
          rw [h1.isInt, h2.isStr]
          exact ⟨_, _, rfl, h3, h4⟩
theorem na_text_len {a : Nat × Atom} (h : NaS a) : (spc (naT a)).length ≤ 200 := by
  obtain ⟨n, a⟩ := a
  obtain ⟨hn, h⟩ := h
  have hn : n ≤ 2 := hn
  have hr : (rep "not " n).length ≤ 8 := by
    rw [rep_len, show (("not " : Str)).length = 4 from rfl]; omega
  cases a with
  | word b w x =>
    obtain ⟨h1, h2⟩ := h
    show (spc (List.replicate n ("not" : Str) ++ [w, x])).length ≤ 200
    rw [← rep_spc (by simp), Str.length_append, spc_cons (by simp), Str.length_append, Str.length_append, show ((" " : Str)).length = 1 from rfl]
    show (rep "not " n).length + (w.length + 1 + x.length) ≤ 200
    omega
  | cmp b s l r =>
    obtain ⟨h1, h2, h3, h4, h5, h6, h7⟩ := h
    have a1 := sumT_len h4 h6
    have a2 := sumT_len h5 h7
    show (spc (List.replicate n ("not" : Str) ++ (sumT l ++ (s :: sumT r)))).length ≤ 200
    rw [← rep_spc (by simp), spc_app (sumT_ne h2) (by simp), spc_cons (sumT_ne h3)]
    simp only [Str.length_append, show ((" " : Str)).length = 1 from rfl]
    show (rep "not " n).length + _ ≤ 200
    omega

def sp_law_atom_text (K : PySem.W.Frag) : Sp := fun vs H Q _ => ∃ (W : List Addr) (v : V) (a : Nat × Atom), vs = [v] ∧ Df W H v (naD a) ∧ Wl W H ∧ NaS a ∧ ∀ H', Ed [] H H' → Q (.str (spc (naT a))) H'

theorem naT_ne {a : Nat × Atom} : naT a ≠ [] := by
  obtain ⟨n, a⟩ := a
  cases a with
  | word b w x => simp [naT, Atom.toks]
  | cmp b s l r => simp [naT, Atom.toks]
theorem partT_ne {p : List (Nat × Atom)} (h : p ≠ []) : partT p ≠ [] := by
  cases p with
  | nil => exact absurd rfl h
  | cons x r =>
    intro z
    have : naT x ++ _ = [] := z
    exact naT_ne (List.append_eq_nil_iff.mp this).1
theorem join_part (p : List (Nat × Atom)) : Str.join " and " (p.map fun a => spc (naT a)) = spc (partT p) := spc_sep (by decide +kernel) p fun _ _ => naT_ne
theorem join_cond (ps : List (List (Nat × Atom))) (h : ∀ p ∈ ps, p ≠ []) : Str.join " or " (ps.map fun p => spc (partT p)) = spc (condT ps) := spc_sep (by decide +kernel) ps fun p hp => partT_ne (h p hp)

def sp_law_condition_text (K : PySem.W.Frag) : Sp := fun vs H Q _ => ∃ (W : List Addr) (p : Addr) (ps : List (List (Nat × Atom))), vs = [.ref p] ∧ Df W H (.ref p) (.list (ps.map partD)) ∧ Wl W H ∧ ps.length ≤ 10 ∧ (∀ x ∈ ps, x ≠ [] ∧ x.length ≤ 10 ∧ ∀ a ∈ x, NaS a) ∧ ∀ H', Ed [] H H' → (spc (condT ps)).length ≤ 22000 → Q (.str (spc (condT ps))) H'
def sp_law_value (K : PySem.W.Frag) : Sp := fun vs H Q _ => ∃ (W : List Addr) (p d : Addr) (ts : Terms) (kvs : List (Key × V)) (val : Str → Int), vs = [.ref p, .ref d] ∧ Df W H (.ref p) (.list (ts.map termD)) ∧ H d = some (.dK kvs) ∧ ValsIn kvs val ts ∧ Q (.int (sumV val ts)) H

def cmpK (l r : Int) : List (Key × V) := [(.inr "=", .bl (decide (l = r))), (.inr "!=", .bl (!decide (l = r))), (.inr "<", .bl (decide (l < r))), (.inr "<=", .bl (decide (l ≤ r)))]
theorem sg_ne : (("=" : Str) ≠ "!=" ∧ ("=" : Str) ≠ "<" ∧ ("=" : Str) ≠ "<=" ∧ ("=" : Str) ≠ ">" ∧ ("=" : Str) ≠ ">=") ∧ (("!=" : Str) ≠ "<" ∧ ("!=" : Str) ≠ "<=" ∧ ("!=" : Str) ≠ ">" ∧ ("!=" : Str) ≠ ">=") ∧ (("<" : Str) ≠ "<=" ∧ ("<" : Str) ≠ ">" ∧ ("<" : Str) ≠ ">=") ∧ (("<=" : Str) ≠ ">" ∧ ("<=" : Str) ≠ ">=") ∧ ((">" : Str) ≠ ">=") := by decide +kernel
theorem inr_ne {a b : Str} (h : a ≠ b) : ¬ (Sum.inr a : Key) = Sum.inr b := fun z => h (Sum.inr.inj z)
theorem cmpK_eq (l r : Int) : mergeK [] (cmpK l r) = cmpK l r := by
  obtain ⟨⟨a1, a2, a3, a4, a5⟩, ⟨b1, b2, b3, b4⟩, ⟨c1, c2, c3⟩, ⟨d1, d2⟩, e1⟩ := sg_ne
  simp [cmpK, mergeK, putK, inr_ne a1, inr_ne a2, inr_ne a3, inr_ne b1, inr_ne b2, inr_ne c1]
theorem cmpK_val {s : Str} (hs : s ∈ signs6) (l r : Int) : (valV (mergeK [] (cmpK l r)) (.inr s) = some (.bl (cmpB s l r))) ∨ (valV (mergeK [] (cmpK l r)) (.inr s) = none ∧ (s = ">" ∧ cmpB s l r = decide (r < l) ∨ s = ">=" ∧ cmpB s l r = decide (r ≤ l))) := by
  obtain ⟨⟨a1, a2, a3, a4, a5⟩, ⟨b1, b2, b3, b4⟩, ⟨c1, c2, c3⟩, ⟨d1, d2⟩, e1⟩ := sg_ne
  rw [cmpK_eq]
  unfold signs6 at hs
  simp only [List.mem_cons, List.not_mem_nil, or_false] at hs
  rcases hs with rfl | rfl | rfl | rfl | rfl | rfl
  · left; unfold cmpB; rw [if_pos rfl]; simp [cmpK, valV]
  · left; unfold cmpB; rw [if_neg a1.symm, if_pos rfl]; simp [cmpK, valV, inr_ne a1]
  · left; unfold cmpB; rw [if_neg a2.symm, if_neg b1.symm, if_pos rfl]; simp [cmpK, valV, inr_ne a2, inr_ne b1]
  · left; unfold cmpB; rw [if_neg a3.symm, if_neg b2.symm, if_neg c1.symm, if_pos rfl]; simp [cmpK, valV, inr_ne a3, inr_ne b2, inr_ne c1]
  · right
    refine ⟨by simp [cmpK, valV, inr_ne a4, inr_ne b3, inr_ne c2, inr_ne d1], .inl ⟨rfl, ?_⟩⟩
    unfold cmpB
    rw [if_neg a4.symm, if_neg b3.symm, if_neg c2.symm, if_neg d1.symm, if_pos rfl]
  · right
    refine ⟨by simp [cmpK, valV, inr_ne a5, inr_ne b4, inr_ne c3, inr_ne d2], .inr ⟨rfl, ?_⟩⟩
    unfold cmpB
    rw [if_neg a5.symm, if_neg b4.symm, if_neg c3.symm, if_neg d2.symm, if_neg e1.symm]

def sp_law_compared (K : PySem.W.Frag) : Sp := fun vs H Q _ => ∃ (s : Str) (l r : Int), vs = [.str s, .int l, .int r] ∧ s ∈ signs6 ∧ ∀ H', Ed [] H H' → Q (.bl (cmpB s l r)) H'
def sp_law_atom_holds (K : PySem.W.Frag) : Sp := fun vs H Q _ => ∃ (W : List Addr) (v : V) (d e o : Addr) (a : Nat × Atom) (kvs hvs : List (Key × V)) (q : Asked), vs = [v, .ref d, .ref e, .ref o] ∧ Df W H v (naD a) ∧ Wl W H ∧ H d = some (.dK kvs) ∧ H e = some (.dK hvs) ∧ SqL K H o (q.op.map V.str) ∧ AtomOk kvs hvs q a.2 ∧ a.2.sign = decide (a.1 % 2 = 0) ∧ ∀ H', Ed [] H H' → Q (.bl (atomV q a.2)) H'

theorem none_left {q : Asked} : ∀ pt : List (Nat × Atom), ((pt.filter fun a => !atomV q a.2).map naD).isEmpty = pt.all fun a => atomV q a.2
  | [] => rfl
  | a :: r => by
    rw [List.all_cons, ← none_left r, List.filter_cons]
    cases atomV q a.2 <;> simp

def sp_law_holds (K : PySem.W.Frag) : Sp := fun vs H Q _ => ∃ (W : List Addr) (p d e o : Addr) (ps : List (List (Nat × Atom))) (kvs hvs : List (Key × V)) (q : Asked), vs = [.ref p, .ref d, .ref e, .ref o] ∧ Df W H (.ref p) (.list (ps.map partD)) ∧ Wl W H ∧ H d = some (.dK kvs) ∧ H e = some (.dK hvs) ∧ SqL K H o (q.op.map V.str) ∧ (∀ x ∈ ps, x.length ≤ 1000 ∧ ∀ a ∈ x, AtomOk kvs hvs q a.2 ∧ a.2.sign = decide (a.1 % 2 = 0) ∧ Sd 5 (naD a)) ∧ ∀ H', Ed [] H H' → Q (.bl (condV q (valC ps))) H'
def sp_Condition___str__ (K : PySem.W.Frag) : Sp := fun vs H Q _ => ∃ (x dx l : Addr) (s : Str), vs = [.ref x] ∧ H x = some (.ins (He.ga K "Condition") dx [("parts", .ref l), ("shown", .str s)]) ∧ Q (.str s) H

/-- what _law_of gives back, told of the value itself -/
theorem ofr_law_of {P : Program} {w : World} {K : PySem.W.Frag} {mg : Str → Option Value} {base : Heap} {f : Addr} {fd : FuncData} (F : FnP K "_law_of" "_law_of" s_law_of f fd) (hb : Binds K fd ["_law_bag", "_law_some"] []) (T : Txt K mg) (C__law_take : Cal P w K mg base 1 "_law_take" ["_law_bag", "_law_many"] (sp_law_take K)) : OfRun P w K mg base 2 f := by
  refine of_run F sc_law_of rfl hb (fun _ _ => rfl) rfl (by decide) (by decide) (fun cdv A outer s H E b a o xs Q hr hB ha hne h0 h1 k => ?_)
  have nd := sc_law_of.nd
  have tk := takes_of (E := E) (X := (cxOf (L2.CX P w) P w K mg base ["_law_bag", "_law_some"] "_law_of" (defScope s_law_of) f cdv A outer s H E)) rfl rfl rfl rfl
  refine ⟨_, (q_call C__law_take tk (hr.mono (by decide)) (pa_cons (pv 0) (pa_cons (pe_callB (cl_len K) (by rfl) T.n_len bt_len (pa_cons (pv 1) pa_nil)) pa_nil))), ?_⟩
  have hS : SqL K H a xs := .inl (.inr ⟨o, ha⟩)
  refine ⟨_, rfl, _, rfl, ?_⟩
  walk_at "go"
  exact ⟨b, _, rfl, hB, by omega, by omega, k⟩


theorem tl_mk (s : Str) : (⟨(TL.tl s).toArray⟩ : Str) = s := str_eq rfl
theorem map_tl {a b : List Str} (h : a.map TL.tl = b.map TL.tl) : a = b := by
  have e : ∀ l : List Str, (l.map TL.tl).map (fun x => (⟨x.toArray⟩ : Str)) = l := fun l => by
    rw [List.map_map]
    conv => rhs; rw [← List.map_id l]
    exact List.map_congr_left fun s _ => tl_mk s
  rw [← e a, ← e b, h]
theorem join_tl (s : Str) : ∀ toks : List Str, TL.tl (Str.join s toks) = TL.joinL (TL.tl s) (toks.map TL.tl)
  | [] => rfl
  | [x] => rfl
  | x :: y :: r => by
    rw [join_cons2]
    have ih := join_tl s (y :: r)
    show (x ++ s ++ Str.join s (y :: r)).cps.toList = x.cps.toList ++ (s.cps.toList ++ TL.joinL (TL.tl s) ((y :: r).map TL.tl))
    rw [← ih, Str.cps_append, Str.cps_append]
    simp
theorem split_join {s : Str} {c : Nat} {r : List Nat} (hs : TL.tl s = c :: r) (h256 : ∀ x ∈ TL.tl s, x < 256) {toks : List Str} (h0 : toks ≠ []) (h : ∀ t ∈ toks, c ∉ TL.tl t) : Txt.split (Str.join s toks) s = toks := by
  refine map_tl ?_
  have hk : Builtin.Str.strKind s = 1 := by
    unfold Builtin.Str.strKind
    rw [if_pos]
    rw [← Array.all_toList, List.all_eq_true]
    intro x hx
    exact decide_eq_true (h256 x hx)
  have hk2 : ¬ Builtin.Str.strKind (Str.join s toks) < Builtin.Str.strKind s := by
    rw [hk]
    unfold Builtin.Str.strKind
    split
    · omega
    · split <;> omega
  rw [TL.split_spl _ _ (by rw [hs]; simp) hk2, join_tl, hs]
  exact TL.spl_join (by simp [h0]) fun p hp => by
    obtain ⟨t, ht, rfl⟩ := List.mem_map.mp hp
    exact h t ht
theorem split_spc {toks : List Str} (h0 : toks ≠ []) (h : ∀ t ∈ toks, Tk t) : Txt.split (spc toks) " " = toks :=
  split_join (c := 32) (r := []) (by decide +kernel) (by decide +kernel) h0 fun t ht z => by
    have := (h t ht).2 32 z
    omega


theorem repl_one {z : List Nat} : ∀ l : List Nat, StrLaws.replL [32] z l = l.flatMap fun c => if c = 32 then z else [c]
  | [] => StrLaws.replL_nil
  | c :: r => by
    rw [List.flatMap_cons, ← repl_one r]
    by_cases h : c = 32
    · rw [if_pos h, StrLaws.replL_hit (by simp) (by rw [h]; rfl)]
      rfl
    · rw [if_neg h, StrLaws.replL_miss (by simp [h])]
      rfl
theorem flat_tok {z : List Nat} {l : List Nat} (h : ∀ c ∈ l, 33 ≤ c ∧ c ≤ 126) : (l.flatMap fun c => if c = 32 then z else [c]) = l := by
  induction l with
  | nil => rfl
  | cons c r ih =>
    have hc := h c (List.mem_cons_self ..)
    rw [List.flatMap_cons, ih fun d hd => h d (List.mem_cons_of_mem _ hd), if_neg (by omega)]
    rfl
theorem repl_spc {b : Str} : ∀ {ts : List Str}, (∀ t ∈ ts, Tk t) → Txt.replace (spc ts) " " b = Str.join b ts := fun {ts} h => by
  refine str_eq ?_
  rw [StrLaws.replace_list (by decide +kernel), show ((" " : Str)).cps.toList = [32] from rfl, repl_one]
  induction ts with
  | nil => rfl
  | cons x r ih =>
    cases r with
    | nil => exact flat_tok (h x (List.mem_cons_self ..)).2
    | cons y r =>
      rw [spc_cons (by simp), join_cons2, Str.cps_append, Str.cps_append, Str.cps_append, Str.cps_append]
      simp only [Array.toList_append, List.flatMap_append]
      rw [ih fun t ht => h t (List.mem_cons_of_mem _ ht), flat_tok (h x (List.mem_cons_self ..)).2, show ((" " : Str)).cps.toList = [32] from rfl]
      simp
/-- the text with its blanks, either way, has the tokens as words -/
theorem words_repl {ts : List Str} {b c : Str} (h : ∀ t ∈ ts, Tk t) (hb : b = " " ∨ b = "  ") (hc : c = spc ts ∨ c = Txt.replace (spc ts) " " b) : Txt.words c = ts := by
  rcases hc with rfl | rfl
  · exact words_spc h
  · rw [repl_spc h]
    have key : ∀ b : Str, b = " " ∨ b = "  " → Bl b ∧ b.cps.toList ≠ [] := by
      rintro b (rfl | rfl)
      · exact ⟨by unfold Bl; decide +kernel, by decide +kernel⟩
      · exact ⟨by unfold Bl; decide +kernel, by decide +kernel⟩
    obtain ⟨k1, k2⟩ := key b hb
    have := words_join0 (sep := b) (tail := "") k1 k2 (by unfold Bl; decide) h
    rwa [app_empty] at this
theorem repl_length {ts : List Str} {b c : Str} (h : ∀ t ∈ ts, Tk t) (hl : ∀ t ∈ ts, t.length ≤ 8) (hb : b = " " ∨ b = "  ") (hc : c = spc ts ∨ c = Txt.replace (spc ts) " " b) : c.length ≤ ts.length * 10 := by
  have lb : b.length ≤ 2 := by rcases hb with rfl | rfl <;> decide +kernel
  have key : ∀ s : Str, s.length ≤ 2 → (Str.join s ts).length ≤ ts.length * 10 := fun s hs =>
    Nat.le_trans (join_len_le s 8 ts hl) (Nat.mul_le_mul_left _ (by omega))
  rcases hc with rfl | rfl
  · exact key " " (by decide +kernel)
  · rw [repl_spc h]; exact key b lb
/-! ### what is drawn -/
def Nm (x : Str) : Prop := ∃ f i, Wd f i x
theorem nm_tk {x : Str} (h : Nm x) : Tk x := by obtain ⟨f, i, h⟩ := h; exact h.tk
theorem nm_len {x : Str} (h : Nm x) : x.length ≤ 8 := by obtain ⟨f, i, h⟩ := h; exact h.len
theorem nm_head {x : Str} (h : Nm x) : ∃ c r, x.cps.toList = c :: r ∧ c ∈ abc14.cps.toList := by
  obtain ⟨f, i, c, r, e, hc, _⟩ := h
  exact ⟨c, r, e, List.mem_of_getElem? hc⟩
theorem nm_nw {x : Str} (h : Nm x) : x ∉ nWords := fun z => by
  obtain ⟨c, r, e, hc⟩ := nm_head h
  have key : ∀ w ∈ nWords, ∀ c ∈ w.cps.toList.head?, c ∉ abc14.cps.toList := by decide +kernel
  exact key x z c (by rw [e]; rfl) hc
theorem nm_num {x : Str} {d : Int} (h : Nm x) (h0 : 0 ≤ d) (h1 : d < 1000) : numT d ≠ x := fun z => by
  obtain ⟨c, r, e, hc⟩ := nm_head h
  have h2 := (num_ok h0 h1).2.2.2.2 c (by rw [z, e]; exact List.mem_cons_self ..)
  have key : ∀ c ∈ abc14.cps.toList, ¬ c ≤ 57 := by decide +kernel
  exact key c hc h2.2
theorem tm_ok {names : List Str} (hn : ∀ x ∈ names, Nm x) {t : Tm} (h : TmW names t) : TmOk names t ∧ Tk t.tok ∧ t.tok.length ≤ 8 ∧ t.tok ∉ nWords := by
  cases t with
  | num d =>
    obtain ⟨h0, h1⟩ := h
    exact ⟨num_term h0 h1 fun z => nm_num (hn _ z) h0 h1 rfl, num_tk h0 h1, Nat.le_trans (num_ok h0 h1).2.2.1 (by decide), num_nw h0 h1⟩
  | nam s =>
    have hs : s ∈ names := h
    have := hn s hs
    refine ⟨?_, nm_tk this, nm_len this, nm_nw this⟩
    unfold TmOk termOf
    rw [if_pos (show Tm.tok (.nam s) ∈ names from hs)]
    rfl
theorem op_tk {f : Int} : Tk (opT f) ∧ (opT f).length ≤ 8 := by
  unfold opT
  split
  · exact ⟨tk_by (by decide +kernel), by decide +kernel⟩
  · exact ⟨tk_by (by decide +kernel), by decide +kernel⟩
theorem ts_ok {names : List Str} (hn : ∀ x ∈ names, Nm x) {ts : Terms} (h : TsW names 2 ts) : TsOk names ts ∧ (∀ t ∈ sumT ts, Tk t ∧ t.length ≤ 8) ∧ (sumT ts).headD "" ∉ nWords ∧ (sumT ts).length ≤ 3 := by
  obtain ⟨h0, h1, h2, h3⟩ := h
  have ok : ∀ t ∈ ts, TmOk names t.2 ∧ Tk t.2.tok ∧ t.2.tok.length ≤ 8 ∧ t.2.tok ∉ nWords := fun t ht => tm_ok hn (h2 t ht).1
  refine ⟨⟨h0, by omega, fun t ht => ⟨(ok t ht).1, (h2 t ht).2⟩, h3⟩, ?_⟩
  cases ts with
  | nil => exact absurd rfl h0
  | cons t r =>
    have k1 := ok t (List.mem_cons_self ..)
    refine ⟨fun x hx => ?_, k1.2.2.2, ?_⟩
    · have hx : x ∈ t.2.tok :: restT r := hx
      rcases List.mem_cons.mp hx with rfl | hx
      · exact ⟨k1.2.1, k1.2.2.1⟩
      · obtain ⟨u, hu, hx⟩ := List.mem_flatMap.mp hx
        simp only [List.mem_cons, List.not_mem_nil, or_false] at hx
        have k2 := ok u (List.mem_cons_of_mem _ hu)
        rcases hx with rfl | rfl
        · exact op_tk
        · exact ⟨k2.2.1, k2.2.2.1⟩
    · show (t.2.tok :: restT r).length ≤ 3
      have : r.length ≤ 1 := by rw [List.length_cons] at h1; omega
      match r, this with
      | [], _ => show (1 : Nat) ≤ 3; decide
      | [u], _ => show (3 : Nat) ≤ 3; decide
theorem sg_tk : ∀ s ∈ signs6, Tk s ∧ s.length ≤ 8 := by
  intro s hs
  unfold signs6 at hs
  simp only [List.mem_cons, List.not_mem_nil, or_false] at hs
  rcases hs with rfl | rfl | rfl | rfl | rfl | rfl <;> exact ⟨tk_by (by decide +kernel), by decide +kernel⟩
theorem kw_tk : ∀ w ∈ (["none", "live", "open", "not", "and", "or"] : List Str), Tk w ∧ w.length ≤ 8 := by
  intro s hs
  simp only [List.mem_cons, List.not_mem_nil, or_false] at hs
  rcases hs with rfl | rfl | rfl | rfl | rfl | rfl <;> exact ⟨tk_by (by decide +kernel), by decide +kernel⟩
theorem na_ok {names hs rs : List Str} (hn : ∀ x ∈ names, Nm x) (hh : ∀ x ∈ hs, Nm x) (hr : ∀ x ∈ rs, Nm x) {toks : List Str} {a : Nat × Atom} (h : NaW names hs rs a) : NaOk ⟨toks, names, hs, rs⟩ a ∧ (∀ t ∈ naT a, Tk t ∧ t.length ≤ 8) ∧ (naT a).length ≤ 9 := by
  obtain ⟨n, a⟩ := a
  obtain ⟨h1, h2, h3⟩ := h
  have h1 : n ≤ 2 := h1
  have key : AtOk ⟨toks, names, hs, rs⟩ a ∧ (∀ t ∈ a.toks, Tk t ∧ t.length ≤ 8) ∧ a.toks.length ≤ 7 := by
    cases a with
    | word b w x =>
      refine ⟨h3, fun t ht => ?_, show (2 : Nat) ≤ 7 by decide⟩
      have ht : t ∈ [w, x] := ht
      simp only [List.mem_cons, List.not_mem_nil, or_false] at ht
      rcases h3 with ⟨hw, hx⟩ | ⟨rfl, hx⟩
      · rcases ht with rfl | rfl
        · exact kw_tk t (by simp only [List.mem_cons, List.not_mem_nil, or_false] at hw ⊢; rcases hw with rfl | rfl <;> simp)
        · exact ⟨nm_tk (hh _ hx), nm_len (hh _ hx)⟩
      · rcases ht with rfl | rfl
        · exact kw_tk _ (by simp)
        · exact ⟨nm_tk (hr _ hx), nm_len (hr _ hx)⟩
    | cmp b s l r =>
      obtain ⟨hs6, hl, hr'⟩ := h3
      obtain ⟨l1, l2, l3, l4⟩ := ts_ok hn hl
      obtain ⟨r1, r2, r3, r4⟩ := ts_ok hn hr'
      refine ⟨⟨hs6, l1, r1, l3⟩, fun t ht => ?_, ?_⟩
      · rcases List.mem_append.mp ht with ht | ht
        · exact l2 t ht
        · rcases List.mem_cons.mp ht with rfl | ht
          · exact sg_tk t hs6
          · exact r2 t ht
      · show (sumT l ++ (s :: sumT r)).length ≤ 7
        rw [List.length_append, List.length_cons]
        omega
  refine ⟨⟨key.1, h2⟩, fun t ht => ?_, ?_⟩
  · rcases List.mem_append.mp ht with ht | ht
    · rw [(List.mem_replicate.mp ht).2]; exact kw_tk _ (by simp)
    · exact key.2.1 t ht
  · show (List.replicate n ("not" : Str) ++ a.toks).length ≤ 9
    rw [List.length_append, List.length_replicate]
    have := key.2.2
    omega
theorem sepT_len {β : Type} {sep : Str} {pr : β → List Str} {B : Nat} : ∀ {xs : List β}, (∀ x ∈ xs, (pr x).length ≤ B) → (sepT sep pr xs).length ≤ xs.length * (B + 1)
  | [], _ => Nat.zero_le _
  | x :: r, h => by
    have h1 := h x (List.mem_cons_self ..)
    have h2 : (r.flatMap fun y => sep :: pr y).length ≤ r.length * (B + 1) := by
      have := fun y hy => h y (List.mem_cons_of_mem _ hy)
      clear h h1
      induction r with
      | nil => exact Nat.zero_le _
      | cons y r ih =>
        have h3 := this y (List.mem_cons_self ..)
        have h4 := ih fun z hz => this z (List.mem_cons_of_mem _ hz)
        rw [List.flatMap_cons, List.length_append, List.length_cons, List.length_cons, Nat.add_mul]
        omega
    show (pr x ++ r.flatMap fun y => sep :: pr y).length ≤ _
    rw [List.length_append, List.length_cons, Nat.add_mul]
    omega
/-- a drawn condition is one that is read; its tokens -/
theorem cd_ok {names hs rs : List Str} (hn : ∀ x ∈ names, Nm x) (hh : ∀ x ∈ hs, Nm x) (hr : ∀ x ∈ rs, Nm x) {ps : List (List (Nat × Atom))} (h : CdW names hs rs 3 ps) : CdOk ⟨condT ps, names, hs, rs⟩ ps ∧ (∀ t ∈ condT ps, Tk t ∧ t.length ≤ 8) ∧ (condT ps).length ≤ 93 ∧ condT ps ≠ [] := by
  obtain ⟨h0, h1, h2⟩ := h
  have kp : ∀ p ∈ ps, (∀ t ∈ partT p, Tk t ∧ t.length ≤ 8) ∧ (partT p).length ≤ 30 := fun p hp => by
    obtain ⟨p0, p1, p2⟩ := h2 p hp
    refine ⟨fun t ht => ?_, ?_⟩
    · rcases sepT_mem ht with rfl | ⟨a, ha, ht⟩
      · exact kw_tk _ (by simp)
      · exact (na_ok (toks := []) hn hh hr (p2 a ha)).2.1 t ht
    · have := sepT_len (sep := "and") (pr := naT) (B := 9) (xs := p) fun a ha => (na_ok (toks := []) hn hh hr (p2 a ha)).2.2
      have e : partT p = sepT "and" naT p := rfl
      rw [e]
      omega
  refine ⟨⟨h0, fun p hp => ⟨(h2 p hp).1, fun a ha => (na_ok hn hh hr ((h2 p hp).2.2 a ha)).1⟩⟩, fun t ht => ?_, ?_, ?_⟩
  · rcases sepT_mem ht with rfl | ⟨p, hp, ht⟩
    · exact kw_tk _ (by simp)
    · exact (kp p hp).1 t ht
  · have := sepT_len (sep := "or") (pr := partT) (B := 30) (xs := ps) fun p hp => (kp p hp).2
    have e : condT ps = sepT "or" partT ps := rfl
    rw [e]
    omega
  · cases ps with
    | nil => exact absurd rfl h0
    | cons p r =>
      intro z
      have z : partT p ++ _ = [] := z
      exact partT_ne (h2 p (List.mem_cons_self ..)).1 (List.append_eq_nil_iff.mp z).1
theorem cd_s {names hs rs : List Str} (hn : ∀ x ∈ names, Nm x) (hh : ∀ x ∈ hs, Nm x) (hr : ∀ x ∈ rs, Nm x) {a : Nat × Atom} (h : NaW names hs rs a) : NaS a := by
  obtain ⟨n, a⟩ := a
  obtain ⟨h2, _, ha⟩ := h
  have ts : ∀ ts : Terms, TsW names 2 ts → ts ≠ [] ∧ ts.length ≤ 5 ∧ ∀ t ∈ ts, TmS t.2 := fun ts h => ⟨h.1, by have := h.2.1; omega, fun t ht => by
    have := (h.2.2.1 t ht).1
    cases e : t.2 with
    | num n => rw [e] at this; exact this
    | nam s => rw [e] at this; exact nm_len (hn s this)⟩
  refine ⟨h2, ?_⟩
  cases a with
  | word b w x =>
    have kw : ∀ w ∈ (["none", "live"] : List Str), w.length ≤ 4 := by decide +kernel
    rcases ha with ⟨hw, hx⟩ | ⟨rfl, hx⟩
    · exact ⟨kw _ hw, nm_len (hh _ hx)⟩
    · exact ⟨by decide +kernel, nm_len (hr _ hx)⟩
  | cmp b s l r =>
    obtain ⟨hs6, hl, hr'⟩ := ha
    have kw : ∀ w ∈ signs6, w.length ≤ 2 := by decide +kernel
    obtain ⟨a1, a2, a3⟩ := ts l hl
    obtain ⟨b1, b2, b3⟩ := ts r hr'
    exact ⟨kw _ hs6, a1, b1, a2, b2, a3, b3⟩
theorem cut_strs (toks : List Str) (lo hi : Option Int) : ∃ ts : List Str, cutD (toks.map PyData.str) lo hi = ts.map PyData.str ∧ (∀ t ∈ ts, t ∈ toks) ∧ ts.length ≤ toks.length := by
  unfold cutD
  rw [← List.map_drop, ← List.map_take]
  exact ⟨_, rfl, fun t ht => List.mem_of_mem_drop (List.mem_of_mem_take ht), by rw [List.length_take, List.length_drop]; omega⟩
theorem seven_of {α : Type} {l : List α} (h : l.length = 7) : ∃ a b c d e f g, l = [a, b, c, d, e, f, g] := by
  match l, h with
  | [a, b, c, d, e, f, g], _ => exact ⟨a, b, c, d, e, f, g, rfl⟩
theorem CondAt.ed {K : PySem.W.Frag} {U : List Addr} {F : Addr → Prop} {H H' : Hp} {x : Addr} {ps : List (List Atom)} {sh : Str} (h : CondAt K F H x ps sh) (e : Ed [] H H') : CondAt K F H' x ps sh := by
  obtain ⟨dx, l, h1, h2⟩ := h
  exact ⟨dx, l, e.get List.not_mem_nil h1, h2.mv (Mv.same e.same')⟩
theorem cond_made {K : PySem.W.Frag} {F : Addr → Prop} {H H' H2 : Hp} {x : Addr} {ps : List (List Atom)} {sh : Str} (hx : H x = none) (e : Ed [] H H') (s : Sx [x] H' H2) (h : CondAt K F H2 x ps sh) : Ed [] H H2 := by
  obtain ⟨dx, l, h1, h2⟩ := h
  refine e.tr (Ed.sx s fun a z => ?_) fun a z => .inr ?_
  · rw [List.mem_singleton.mp z, h1]; exact fun z => nomatch z
  · rw [List.mem_singleton.mp z]; exact hx
theorem cut_one {α : Type} {f : α → PyData} {xs : List α} : cutD (xs.map f) none (some 1) = (xs.take 1).map f := by
  cases xs with
  | nil => rfl
  | cons x r =>
    unfold cutD
    have e1 : HT.sIx ((x :: r).map f).length 0 none = 0 := rfl
    have e2 : HT.sIx ((x :: r).map f).length ((x :: r).map f).length (some 1) = 1 := by
      rw [List.map_cons, List.length_cons]
      unfold HT.sIx
      simp
    rw [e1, e2]
    rfl
theorem g_neSelf {K : PySem.W.Frag} {W : List Addr} {H : Hp} {Q : VK} {x y : V} {d : PyData} {n : Nat} (h1 : Df W H x d) (h2 : Df W H y d) (s : Sd n d) (hn : n ≤ 60) (k : Q (.bl false) H) : dNe K x y H Q :=
  g_ned h1 h2 (s.sh hn) (s.sh hn) (by rw [PySem.SeqAt.eqv_refl d s.1]; exact k)
def stD : Option Str → PyData
  | none => .none
  | some s => .str s
theorem put_any {α : Type} {f : α → V} {names : List Str} {kvs : List (Key × V)} {val : Str → α} {k : Nat} {s : Str} (hs : names[k]? = some s) (h : ∀ t ∈ names.take k, valV kvs (.inr t) = some (f (val t))) (w : α) : ∃ val' : Str → α, ∀ t ∈ names.take (k + 1), valV (putK kvs (.inr s) (f w)) (.inr t) = some (f (val' t)) := by
  refine ⟨fun t => if t = s then w else val t, fun t ht => ?_⟩
  rw [valV_put]
  by_cases e : t = s
  · show _ = some (f (if t = s then w else val t))
    rw [if_pos (by rw [e]), if_pos e]
  · show _ = some (f (if t = s then w else val t))
    rw [if_neg (inr_ne e), if_neg e]
    rw [List.take_succ, hs] at ht
    rcases List.mem_append.mp ht with ht | ht
    · exact h t ht
    · simp at ht; exact absurd ht e
theorem put_val {names : List Str} {kvs : List (Key × V)} {val : Str → Int} {k : Nat} {s : Str} (hs : names[k]? = some s) (h : ∀ t ∈ names.take k, valV kvs (.inr t) = some (.int (val t))) (w : Int) : ∃ val' : Str → Int, ∀ t ∈ names.take (k + 1), valV (putK kvs (.inr s) (.int w)) (.inr t) = some (.int (val' t)) := put_any (f := V.int) hs h w
theorem put_st {names : List Str} {kvs : List (Key × V)} {val : Str → Option Str} {k : Nat} {s : Str} (hs : names[k]? = some s) (h : ∀ t ∈ names.take k, valV kvs (.inr t) = some (stV (val t)) ∧ Sd 0 (stD (val t))) (w : Option Str) (hw : Sd 0 (stD w)) : ∃ val' : Str → Option Str, ∀ t ∈ names.take (k + 1), valV (putK kvs (.inr s) (stV w)) (.inr t) = some (stV (val' t)) ∧ Sd 0 (stD (val' t)) := by
  refine ⟨fun t => if t = s then w else val t, fun t ht => ?_⟩
  rw [valV_put]
  by_cases e : t = s
  · show _ = some (stV (if t = s then w else val t)) ∧ Sd 0 (stD (if t = s then w else val t))
    rw [if_pos (by rw [e]), if_pos e]
    exact ⟨rfl, hw⟩
  · show _ = some (stV (if t = s then w else val t)) ∧ Sd 0 (stD (if t = s then w else val t))
    rw [if_neg (inr_ne e), if_neg e]
    rw [List.take_succ, hs] at ht
    rcases List.mem_append.mp ht with ht | ht
    · exact h t ht
    · simp at ht; exact absurd ht e
theorem CondAt.edB {K : PySem.W.Frag} {b : Addr} {F : Addr → Prop} {H H' : Hp} {x : Addr} {ps : List (List Atom)} {sh : Str} (h : CondAt K F H x ps sh) (e : Ed [b] H H') (hb : Bag H b) (hF : ¬ F b) : CondAt K F H' x ps sh := by
  obtain ⟨dx, l, h1, h2⟩ := h
  obtain ⟨u, v, hb⟩ := hb
  refine ⟨dx, l, e.get (fun z => ?_) h1, h2.mv ⟨fun a xs ha => e.get (fun z => ?_) ha, fun a xs hf ha => ⟨hf, e.get (fun z => ?_) ha⟩⟩⟩
  · rw [List.mem_singleton.mp z, hb] at h1; cases h1
  · rw [List.mem_singleton.mp z, hb] at ha; cases ha
  · rw [List.mem_singleton.mp z] at hf; exact hF hf
theorem df_st {W : List Addr} {H : Hp} (w : Option Str) : Df W H (stV w) (stD w) := by
  cases w
  · exact .non
  · exact .str _
theorem sd_ts {names : List Str} (hn : ∀ x ∈ names, Nm x) (sk : ∀ {x : Str}, Nm x → PyData.strOk x = true) {ts : Terms} (h : TsW names 2 ts) : Sd 2 (.list (ts.map termD)) := by
  refine Sd.list (n := 1) (Sd.map fun t ht => Sd.tuple (n := 0) (Sd.cons (Sd.str ?_) (Sd.cons ?_ Sd.nil)))
  · unfold opT; split <;> decide +kernel
  · have := (h.2.2.1 t ht).1
    cases e : t.2 with
    | num n => exact Sd.int n
    | nam s => rw [e] at this; exact Sd.str (sk (hn s this))
/-- what the laws' own reading asks of a drawn condition -/
theorem atoms_ok {names hs rs : List Str} (hn : ∀ x ∈ names, Nm x) (hh : ∀ x ∈ hs, Nm x) (hr : ∀ x ∈ rs, Nm x) (sk : ∀ {x : Str}, Nm x → PyData.strOk x = true) {ps : List (List (Nat × Atom))} (hcd : CdW names hs rs 3 ps) {kvs hvs : List (Key × V)} {q : Asked}
    (hval : ∀ s ∈ names, valV kvs (.inr s) = some (.int (q.val s))) (hst : ∀ s ∈ hs, valV hvs (.inr s) = some (stV (q.st s))) : ∀ x ∈ ps, x.length ≤ 1000 ∧ ∀ a ∈ x, AtomOk kvs hvs q a.2 ∧ a.2.sign = decide (a.1 % 2 = 0) ∧ Sd 5 (naD a) := fun x hx => by
  obtain ⟨_, h1, h2⟩ := hcd.2.2 x hx
  refine ⟨by omega, fun a ha => ?_⟩
  obtain ⟨n, a⟩ := a
  obtain ⟨_, h3, h4⟩ := h2 _ ha
  cases a with
  | word b w x =>
    refine ⟨⟨?_, fun hw => ?_⟩, h3, (Sd.tuple (n := 1) (Sd.cons ((Sd.int _).mono (by decide)) (Sd.cons ((Sd.str ?_).mono (by decide)) (Sd.cons ((Sd.str ?_).mono (by decide)) (Sd.cons (Sd.list (n := 0) Sd.nil) Sd.nil))))).mono (by decide)⟩
    · rcases h4 with ⟨h4, _⟩ | ⟨rfl, _⟩
      · simp only [List.mem_cons, List.not_mem_nil, or_false] at h4 ⊢
        rcases h4 with rfl | rfl <;> simp
      · simp
    · rcases h4 with ⟨_, h4⟩ | ⟨h4, _⟩
      · exact hst x h4
      · exact absurd h4 hw
    · rcases h4 with ⟨h4, _⟩ | ⟨rfl, _⟩
      · simp only [List.mem_cons, List.not_mem_nil, or_false] at h4
        rcases h4 with rfl | rfl <;> decide +kernel
      · decide +kernel
    · rcases h4 with ⟨_, h4⟩ | ⟨_, h4⟩
      · exact sk (hh _ h4)
      · exact sk (hr _ h4)
  | cmp b s l r =>
    obtain ⟨h5, h6, h7⟩ := h4
    have vi : ∀ ts : Terms, TsW names 2 ts → ValsIn kvs q.val ts := fun ts h t ht => ⟨(h.2.2.1 t ht).2, fun s e => by
      have := (h.2.2.1 t ht).1
      rw [e] at this
      exact hval s this⟩
    have ss : ∀ s ∈ signs6, PyData.strOk s = true := by decide +kernel
    exact ⟨⟨h5, vi l h6, vi r h7⟩, h3, (Sd.tuple (n := 2) (Sd.cons ((Sd.int _).mono (by decide)) (Sd.cons ((Sd.str (ss s h5)).mono (by decide)) (Sd.cons (sd_ts hn sk h6) (Sd.cons (sd_ts hn sk h7) Sd.nil))))).mono (by decide)⟩
theorem atoms_val {ps : List (List (Nat × Atom))} {kvs hvs : List (Key × V)} {q : Asked} (h : ∀ x ∈ ps, x.length ≤ 1000 ∧ ∀ a ∈ x, AtomOk kvs hvs q a.2 ∧ a.2.sign = decide (a.1 % 2 = 0) ∧ Sd 5 (naD a)) : ∀ p ∈ valC ps, p.length ≤ 10000 ∧ ∀ a ∈ p, AtomOk kvs hvs q a := fun p hp => by
  obtain ⟨x, hx, rfl⟩ := List.mem_map.mp hp
  obtain ⟨h1, h2⟩ := h x hx
  refine ⟨by rw [List.length_map]; omega, fun a ha => ?_⟩
  obtain ⟨y, hy, rfl⟩ := List.mem_map.mp ha
  exact (h2 y hy).1

def sp_law (K : PySem.W.Frag) : Sp := fun vs H Q _ => ∃ (a : Addr) (ns : List Int), vs = [.ref a] ∧ SqL K H a (ns.map V.int) ∧ ns.length ≤ 63 ∧ (∀ z ∈ ns, Builtin.Int.intBits z ≤ 1048576) ∧ ∀ H', Q (.bl true) H'
section
variable {P : Program} {w : World} {K : PySem.W.Frag} {mg : Str → Option Value} {base : Heap}
theorem ok_BadCondition___init__ {f : Addr} {fd : FuncData} (F : FnP K "__init__" "BadCondition.__init__" s_BadCondition___init__ f fd) (o : OexG K (He.ga K "BadCondition")) (no : PySem.W.findIn K (.ref (He.ga K "BadCondition")) "at" = some none) : FnOk P w K mg base (L2.CX P w) 1 f fd ["self", "at"] (sp_xi (He.ga K "BadCondition") "at") := by
  refine F.ok sc_BadCondition___init__ (fun vs H Q E h => ?_) (fun cdv A outer s H vs Q E hr h => ?_)
  · obtain ⟨a, v, rfl, _⟩ := h
    rfl
  · obtain ⟨a, v, rfl, ha, k⟩ := h
    exact ⟨_, pss_one (ps_of (pv 0) (pv 1)), _, rfl, _, rfl, a, _, rfl, o, no, ha, fun dx h1 h2 => k dx h1 h2⟩
end
section
variable {P : Program} {w : World} {K : PySem.W.Frag} {mg : Str → Option Value} {base : Heap}
theorem ok_law_seed {f : Addr} {fd : FuncData} (F : FnP K "_law_seed" "_law_seed" s_law_seed f fd) (T : Txt K mg)   : FnOk P w K mg base (L2.CX P w) 1 f fd ["_law_script", "_law_at"] (sp_law_seed K) := by
  refine F.ok sc_law_seed (fun vs H Q E h => ?_) (fun cdv A outer s H vs Q E hr h => ?_)
  · obtain ⟨a, ns, n, rfl, _⟩ := h
    rfl
  · have nd := sc_law_seed.nd
    have tk := takes_of (E := E) (X := (cxOf (L2.CX P w) P w K mg base ["_law_script", "_law_at", "_law_cell", "_law_mixed", "_law_k", "_law_each"] "_law_seed" (defScope s_law_seed) f cdv A outer s H E)) rfl rfl rfl rfl
    have po : PassesOwn (model P w) (cxOf (L2.CX P w) P w K mg base ["_law_script", "_law_at", "_law_cell", "_law_mixed", "_law_k", "_law_each"] "_law_seed" (defScope s_law_seed) f cdv A outer s H E).A (cxOf (L2.CX P w) P w K mg base ["_law_script", "_law_at", "_law_cell", "_law_mixed", "_law_k", "_law_each"] "_law_seed" (defScope s_law_seed) f cdv A outer s H E).env (cxOf (L2.CX P w) P w K mg base ["_law_script", "_law_at", "_law_cell", "_law_mixed", "_law_k", "_law_each"] "_law_seed" (defScope s_law_seed) f cdv A outer s H E).xe := passes_of (X := (cxOf (L2.CX P w) P w K mg base ["_law_script", "_law_at", "_law_cell", "_law_mixed", "_law_k", "_law_each"] "_law_seed" (defScope s_law_seed) f cdv A outer s H E)) rfl
    obtain ⟨a, ns, n, rfl, hS, h0, k⟩ := h
    refine ⟨_, (pss_cons (q_set 2 nd (pe_ifExp (pt_cmpR op_dLt (pv 1) (pe_callB (cl_len K) (by rfl) T.n_len bt_len (pa_cons (pv 0) pa_nil)) (nomark _)) (pe_ix (ix_dyn K) (pv 0) (pv 1) (fun _ _ => rfl)) pe_int)) (pss_cons (q_set 3 nd (pe_op op_dAdd pe_int (pe_op op_dMul pe_int (pv 1)))) (pss_cons (ps_for po rfl (q_enum K T.n_enumerate (pa_cons (pe_slice (sl_dyn K) (pv 0) po_none (po_some pe_int)) pa_nil)) (q_gtup K 2 (pgs_cons (q_name 4 nd) (pgs_cons (q_name 5 nd) pgs_nil))) (pss_one (q_set 3 nd (pe_op op_dMod (pe_callTy cl_int (by rfl) T.n_int bt_int (pa_cons (pe_op op_dAdd (pe_op op_dAdd (pe_op op_dMul (pv 3) pe_int) (pe_op op_dMod (pe_callTy cl_int (by rfl) T.n_int bt_int (pa_cons (pv 5) pa_nil)) pe_int)) (pe_op op_dMul pe_int (pv 4))) pa_nil)) pe_int)))) (pss_one (ps_ret (pe_lst (pa_cons (pe_ifExp (pt_cmpR op_dGe (pe_callB cl_abs (by rfl) T.n_abs bt_abs (pa_cons (pv 2) pa_nil)) (pe_op op_dPow pe_int pe_int) (nomark _)) (pe_callB cl_abs (by rfl) T.n_abs bt_abs (pa_cons (pv 2) pa_nil)) pe_int) (pa_cons (pv 3) pa_nil)))))))), ?_⟩
    refine g_start (σ' := some _ :: some _ :: none :: none :: none :: none :: []) rfl ?_
    walk_at "go"
    refine' g_all (α := Int) (fun rest => ?main) ?rest
    case main =>
      refine g_iteD (fun hlt => ?_) (fun hlt => ?_)
      · walk_at "go"
        obtain ⟨c, hc⟩ := atI_int h0 hlt
        refine g_ix_l (Or.inl hS) hc ?_
        exact rest c
      · walk_at "go1"
        exact rest 0
    case rest =>
      intro c
      walk_at "go"
      intro l hl
      walk_at "go"
      refine lp_it (walk_enum (xs := cutV (ns.map V.int) none (some 63))) (fun i σ' H' => ∃ (m : Int) (u v : Option V), σ' = [some (.ref a), some (.int n), some (.int c), some (.int m), u, v] ∧ Same H H' ∧ H' l = some (.lst (cutV (ns.map V.int) none (some 63)))) ?_ ?_ ?_ ?_
      · exact ⟨_, none, none, rfl, (Same.refl H).new hl, upd_same⟩
      · rintro i σ' H' _ ⟨m, u, v, rfl, s1, h1⟩
        exact SqL.of h1
      · rintro i x σ' H' H2 hi ⟨m, u, v, rfl, s1, h1⟩ ⟨t, x1, y1, rfl, ht, rfl, e1, e2⟩
        cases e1
        obtain ⟨z, _, rfl⟩ := List.mem_map.mp (cutV_mem (List.mem_of_getElem? e2))
        walk_at "go"
        exact ⟨_, _, _, rfl, s1.new ht, by walk_at "hp"⟩
      · rintro σ' H' ⟨m, u, v, rfl, s1, h1⟩
        walk_at "go"
        refine g_iteD (fun _ => ?_) (fun _ => ?_)
        all_goals
          walk_at "go"
          refine ⟨by show 2 ≤ sizeLine; decide, fun p hp => ?_⟩
          exact k p _ (s1.new hp) (s1.free hp) Bag.at
end
section
variable {P : Program} {w : World} {K : PySem.W.Frag} {mg : Str → Option Value} {base : Heap}
theorem ok_law_take {f : Addr} {fd : FuncData} (F : FnP K "_law_take" "_law_take" s_law_take f fd) (T : Txt K mg)   : FnOk P w K mg base (L2.CX P w) 1 f fd ["_law_bag", "_law_many"] (sp_law_take K) := by
  refine F.ok sc_law_take (fun vs H Q E h => ?_) (fun cdv A outer s H vs Q E hr h => ?_)
  · obtain ⟨b, many, rfl, _⟩ := h
    rfl
  · have nd := sc_law_take.nd
    have tk := takes_of (E := E) (X := (cxOf (L2.CX P w) P w K mg base ["_law_bag", "_law_many", "_law_digit"] "_law_take" (defScope s_law_take) f cdv A outer s H E)) rfl rfl rfl rfl
    have po : PassesOwn (model P w) (cxOf (L2.CX P w) P w K mg base ["_law_bag", "_law_many", "_law_digit"] "_law_take" (defScope s_law_take) f cdv A outer s H E).A (cxOf (L2.CX P w) P w K mg base ["_law_bag", "_law_many", "_law_digit"] "_law_take" (defScope s_law_take) f cdv A outer s H E).env (cxOf (L2.CX P w) P w K mg base ["_law_bag", "_law_many", "_law_digit"] "_law_take" (defScope s_law_take) f cdv A outer s H E).xe := passes_of (X := (cxOf (L2.CX P w) P w K mg base ["_law_bag", "_law_many", "_law_digit"] "_law_take" (defScope s_law_take) f cdv A outer s H E)) rfl
    obtain ⟨b, many, rfl, ⟨x, y, hb⟩, h1, h2, k⟩ := h
    have h3 : many.natAbs.log2 < 9000 := log2_small (Nat.lt_of_lt_of_le (show many.natAbs < 2 ^ 200 by omega) (by decide)) (by omega)
    refine ⟨_, (pss_cons (ps_if (pt_cmpR op_dGt (pe_ix (ix_dyn K) (pv 0) pe_int (fun _ _ => rfl)) pe_int (nomark _)) (pss_cons (q_set 2 nd (pe_op op_dMod (pe_callTy cl_int (by rfl) T.n_int bt_int (pa_cons (pe_ix (ix_dyn K) (pv 0) pe_int (fun _ _ => rfl)) pa_nil)) (pv 1))) (pss_cons (ps_asg (pe_op op_dDiv (pe_ix (ix_dyn K) (pv 0) pe_int (fun _ _ => rfl)) (pv 1)) (pg_sub (pv 0) pe_int set_list)) (pss_one (ps_ret (pv 2))))) pss_nil) (pss_cons (ps_asg (pe_op op_dMod (pe_callTy cl_int (by rfl) T.n_int bt_int (pa_cons (pe_op op_dAdd (pe_op op_dMul (pe_ix (ix_dyn K) (pv 0) pe_int (fun _ _ => rfl)) pe_int) pe_int) pa_nil)) pe_int) (pg_sub (pv 0) pe_int set_list)) (pss_one (ps_ret (pe_op op_dMod (pe_op op_dDiv (pe_op op_dMod (pe_callTy cl_int (by rfl) T.n_int bt_int (pa_cons (pe_op op_dMul (pe_op op_dDiv (pe_ix (ix_dyn K) (pv 0) pe_int (fun _ _ => rfl)) pe_int) pe_int) pa_nil)) pe_int) pe_int) (pv 1)))))), ?_⟩
    refine g_start (σ' := some _ :: some _ :: none :: []) rfl ?_
    walk_at "go"
    refine g_iteD (fun h => ?_) (fun h => ?_)
    · walk_at "go"
      exact k _ _ (Int.emod_nonneg _ (by omega)) (Int.emod_lt_of_pos _ h1) ((Sx.refl H).put (by simp)) Bag.at
    · walk_at "go"
      exact k _ _ (Int.emod_nonneg _ (by omega)) (Int.emod_lt_of_pos _ h1) ((Sx.refl H).put (by simp)) Bag.at
end
section
variable {P : Program} {w : World} {K : PySem.W.Frag} {mg : Str → Option Value} {base : Heap}
theorem ok_law_of {f : Addr} {fd : FuncData} (F : FnP K "_law_of" "_law_of" s_law_of f fd) (T : Txt K mg) (C_law_take : Cal P w K mg base 1 "_law_take" ["_law_bag", "_law_many"] (sp_law_take K))  : FnOk P w K mg base (L2.CX P w) 2 f fd ["_law_bag", "_law_some"] (sp_law_of K) := by
  refine F.ok sc_law_of (fun vs H Q E h => ?_) (fun cdv A outer s H vs Q E hr h => ?_)
  · obtain ⟨b, p, xs, rfl, _⟩ := h
    rfl
  · have nd := sc_law_of.nd
    have tk := takes_of (E := E) (X := (cxOf (L2.CX P w) P w K mg base ["_law_bag", "_law_some"] "_law_of" (defScope s_law_of) f cdv A outer s H E)) rfl rfl rfl rfl
    have po : PassesOwn (model P w) (cxOf (L2.CX P w) P w K mg base ["_law_bag", "_law_some"] "_law_of" (defScope s_law_of) f cdv A outer s H E).A (cxOf (L2.CX P w) P w K mg base ["_law_bag", "_law_some"] "_law_of" (defScope s_law_of) f cdv A outer s H E).env (cxOf (L2.CX P w) P w K mg base ["_law_bag", "_law_some"] "_law_of" (defScope s_law_of) f cdv A outer s H E).xe := passes_of (X := (cxOf (L2.CX P w) P w K mg base ["_law_bag", "_law_some"] "_law_of" (defScope s_law_of) f cdv A outer s H E)) rfl
    obtain ⟨b, p, xs, rfl, hb, hp, hne, h1, h2, k⟩ := h
    refine ⟨_, (pss_one (ps_ret (pe_ix (ix_dyn K) (pv 1) (q_call C_law_take tk (hr.mono (by decide)) (pa_cons (pv 0) (pa_cons (pe_callB (cl_len K) (by rfl) T.n_len bt_len (pa_cons (pv 1) pa_nil)) pa_nil))) (fun _ _ => rfl)))), ?_⟩
    refine g_start (σ' := some _ :: some _ :: []) rfl ?_
    walk_at "go"
    refine ⟨b, _, rfl, hb, by omega, by omega, fun d H' d0 d1 s1 b1 => ?_⟩
    obtain ⟨v, hv, e⟩ := atI_mem d0 d1
    exact g_ix_l (Or.inl (SqL.of (s1.get1 hne hp))) e (k v H' hv s1 b1)
end
section
variable {P : Program} {w : World} {K : PySem.W.Frag} {mg : Str → Option Value} {base : Heap}
theorem ok_is_number {f : Addr} {fd : FuncData} (F : FnP K "is_number" "is_number" s_is_number f fd) (T : Txt K mg)   : FnOk P w K mg base (L2.CX P w) 1 f fd ["token"] (sp_is_number K) := by
  refine F.ok sc_is_number (fun vs H Q E h => ?_) (fun cdv A outer s H vs Q E hr h => ?_)
  · obtain ⟨t, rfl, _⟩ := h
    rfl
  · have nd := sc_is_number.nd
    have tk := takes_of (E := E) (X := (cxOf (L2.CX P w) P w K mg base ["token", "char"] "is_number" (defScope s_is_number) f cdv A outer s H E)) rfl rfl rfl rfl
    have po : PassesOwn (model P w) (cxOf (L2.CX P w) P w K mg base ["token", "char"] "is_number" (defScope s_is_number) f cdv A outer s H E).A (cxOf (L2.CX P w) P w K mg base ["token", "char"] "is_number" (defScope s_is_number) f cdv A outer s H E).env (cxOf (L2.CX P w) P w K mg base ["token", "char"] "is_number" (defScope s_is_number) f cdv A outer s H E).xe := passes_of (X := (cxOf (L2.CX P w) P w K mg base ["token", "char"] "is_number" (defScope s_is_number) f cdv A outer s H E)) rfl
    obtain ⟨t, rfl, hl, k⟩ := h
    have hz : t.length ≤ sizeLine := by rw [sizeLine_eq]; omega
    refine ⟨_, (pss_cons (ps_if (PW.pt (pw_or (pt_cmpR (op_dEq K hr.units) (pv 0) pe_str (nomark _)) (pw_or1 (pt_cmpR op_dGt (pe_callB (cl_len K) (by rfl) T.n_len bt_len (pa_cons (pv 0) pa_nil)) pe_int (nomark _))))) (pss_one (ps_ret pe_bl)) pss_nil) (pss_cons (ps_for po rfl (pi_str (pv 0)) (q_name 1 nd) (pss_one (ps_if (pt_cmpR (op_dNotIn K) (pv 1) pe_str (by rfl)) (pss_one (ps_ret pe_bl)) pss_nil))) (pss_one (ps_ret (q_orT K (pe_cmpR (op_dEq K hr.units) (pv 0) pe_str (nomark _)) (pe_one (pe_cmpR (op_dNe K hr.units) (pe_ix (ix_dyn K) (pv 0) pe_int (fun _ _ => rfl)) pe_str (nomark _)))))))), ?_⟩
    refine g_start (σ' := some _ :: none :: []) rfl ?_
    walk_at "go"
    refine g_iteD (fun e => ?_) (fun e => ?_)
    · walk_at "go"
      rw [show isNum t = false by unfold isNum; rw [decide_eq_true e]; rfl] at k
      exact k
    · walk_at "go"
      refine g_iteD (fun e2 => ?_) (fun e2 => ?_)
      · walk_at "go"
        rw [show isNum t = false by unfold isNum; rw [decide_eq_true e2, Bool.or_true]; rfl] at k
        exact k
      · walk_at "go"
        refine lp_it walk_str (fun i σ' H' => ∃ v : Option V, σ' = [some (.str t), v] ∧ H' = H ∧ ((t.cps.toList.take i).all fun c => decide (c ∈ digs.cps.toList)) = true) ⟨none, rfl, rfl, rfl⟩ (fun _ _ _ _ _ => trivial) ?_ ?_
        · rintro i x σ' H' H2 hi ⟨v, rfl, rfl, ha⟩ ⟨rfl, c, hc, rfl⟩
          have hc' : t.cps.toList[i]? = some c := by simpa using hc
          walk_at "go"
          refine g_iteN (fun hn => ?_) (fun hn => ?_)
          · walk_at "go"
            have hb := all_no (f := fun c => decide (c ∈ digs.cps.toList)) hc' (decide_eq_false hn)
            rw [show isNum t = false by unfold isNum; rw [hb]; simp] at k
            exact k
          · walk_at "go"
            exact ⟨_, rfl, rfl, all_take_succ hc' (decide_eq_true hn) ha⟩
        · rintro σ' H' ⟨v, rfl, rfl, ha⟩
          have ha' : (t.cps.toList.all fun c => decide (c ∈ digs.cps.toList)) = true := by
            rw [List.take_of_length_le (by simp)] at ha
            exact ha
          have kk : Q (.bl (decide (t = "0") || !decide ((⟨#[t.cps.toList.headD 0]⟩ : Str) = "0"))) H' := by
            have : isNum t = (decide (t = "0") || !decide ((⟨#[t.cps.toList.headD 0]⟩ : Str) = "0")) := by
              unfold isNum
              rw [ha', decide_eq_false e, decide_eq_false e2]
              simp
            rw [← this]
            exact k
          walk_at "go"
          refine g_iteD (fun e3 => ?_) (fun e3 => ?_)
          · rw [decide_eq_true e3] at kk ⊢
            exact kk
          · walk_at "go"
            refine g_ix_s hz (atI_zero (nil_of_ne e)) ?_
            walk_at "go"
            rw [decide_eq_false e3] at kk
            exact kk
end
section
variable {P : Program} {w : World} {K : PySem.W.Frag} {mg : Str → Option Value} {base : Heap}
theorem ok_read_sum {f : Addr} {fd : FuncData} (F : FnP K "read_sum" "read_sum" s_read_sum f fd) (T : Txt K mg) (C_is_number : Cal P w K mg base 1 "is_number" ["token"] (sp_is_number K))  : FnOk P w K mg base (L2.CX P w) 2 f fd ["tokens", "start", "names"] (sp_read_sum K) := by
  refine F.ok sc_read_sum (fun vs H Q E h => ?_) (fun cdv A outer s H vs Q E hr h => ?_)
  · obtain ⟨p, q, toks, names, s, rfl, _⟩ := h
    rfl
  · have nd := sc_read_sum.nd
    have tk := takes_of (E := E) (X := (cxOf (L2.CX P w) P w K mg base ["tokens", "start", "names", "terms", "factor", "at", "token"] "read_sum" (defScope s_read_sum) f cdv A outer s H E)) rfl rfl rfl rfl
    have po : PassesOwn (model P w) (cxOf (L2.CX P w) P w K mg base ["tokens", "start", "names", "terms", "factor", "at", "token"] "read_sum" (defScope s_read_sum) f cdv A outer s H E).A (cxOf (L2.CX P w) P w K mg base ["tokens", "start", "names", "terms", "factor", "at", "token"] "read_sum" (defScope s_read_sum) f cdv A outer s H E).env (cxOf (L2.CX P w) P w K mg base ["tokens", "start", "names", "terms", "factor", "at", "token"] "read_sum" (defScope s_read_sum) f cdv A outer s H E).xe := passes_of (X := (cxOf (L2.CX P w) P w K mg base ["tokens", "start", "names", "terms", "factor", "at", "token"] "read_sum" (defScope s_read_sum) f cdv A outer s H E)) rfl
    obtain ⟨p, q, toks, names, s0, rfl, hp, hq, hl, k⟩ := h
    refine ⟨_, (pss_cons (q_set 3 nd (pe_lst pa_nil)) (pss_cons (q_set 4 nd pe_int) (pss_cons (q_set 5 nd (pv 1)) (pss_one (ps_while po (q_truth K pe_bl) (pss_cons (q_set 6 nd (pe_ifExp (pt_cmpR op_dLt (pv 5) (pe_callB (cl_len K) (by rfl) T.n_len bt_len (pa_cons (pv 0) pa_nil)) (nomark _)) (pe_ix (ix_dyn K) (pv 0) (pv 5) (fun _ _ => rfl)) pe_str)) (pss_cons (ps_if (pt_cmpR (op_dIn K) (pv 6) (pv 2) (by rfl)) (pss_one (ps_expr (q_bm K PySem.F.plainAttrs_list PySem.F.slot_list_append PySem.F.type_list_append m_append (pv 3) (pa_cons (pe_tup (pa_cons (pv 4) (pa_cons (pv 6) pa_nil))) pa_nil)))) (pss_one (ps_if (q_truth K (q_call C_is_number tk (hr.mono (by decide)) (pa_cons (pv 6) pa_nil))) (pss_one (ps_expr (q_bm K PySem.F.plainAttrs_list PySem.F.slot_list_append PySem.F.type_list_append m_append (pv 3) (pa_cons (pe_tup (pa_cons (pv 4) (pa_cons (pe_callTy cl_int (by rfl) T.n_int bt_int (pa_cons (pv 6) pa_nil)) pa_nil))) pa_nil)))) (pss_one (ps_ret (pe_tup (pa_cons pe_non (pa_cons (pv 5) pa_nil)))))))) (pss_cons (q_aug 5 nd pe_int ip_add) (pss_cons (ps_if (PW.pt (pw_or (pt_cmpR op_dGe (pv 5) (pe_callB (cl_len K) (by rfl) T.n_len bt_len (pa_cons (pv 0) pa_nil)) (nomark _)) (pw_or (pt_cmpR (op_dNotIn K) (pe_ix (ix_dyn K) (pv 0) (pv 5) (fun _ _ => rfl)) (pe_tup (pa_cons pe_str (pa_cons pe_str pa_nil))) (by rfl)) (pw_or1 (pt_cmpR (op_dEq K hr.units) (pe_callB (cl_len K) (by rfl) T.n_len bt_len (pa_cons (pv 3) pa_nil)) (q_glob T.g_MOST_TERMS) (nomark _)))))) (pss_one (ps_ret (pe_tup (pa_cons (pv 3) (pa_cons (pv 5) pa_nil))))) pss_nil) (pss_cons (q_set 4 nd (pe_ifExp (pt_cmpR (op_dEq K hr.units) (pe_ix (ix_dyn K) (pv 0) (pv 5) (fun _ _ => rfl)) pe_str (nomark _)) pe_int (pe_un un_neg pe_int))) (pss_one (q_aug 5 nd pe_int ip_add)))))))))))), ?_⟩
    refine g_start (σ' := some _ :: some _ :: some _ :: none :: none :: none :: none :: []) rfl ?_
    walk_at "go"
    refine al fun l hl0 => ?_
    walk_at "go"
    refine ⟨fun m σ' H' => ∃ (n : Nat) (f : Int) (acc : Terms) (u : Option V), σ' = [some (.ref p), some (.int (s0 : Nat)), some (.ref q), some (.ref l), some (.int f), some (.int (n : Nat)), u] ∧ Same H H' ∧ TermsAt H' l acc ∧ acc.length + m = 5 ∧ 0 < m ∧ readS names toks m n f acc = readS names toks 5 s0 1 [], ⟨5, s0, 1, [], none, rfl, (Same.refl H).new hl0, TermsAt.nil, rfl, by decide, rfl⟩, ?_⟩
    rintro m σ' H' ⟨n, f, acc, u, rfl, s1, ⟨as, hla, hpa⟩, hm, hm0, hrd⟩
    obtain ⟨m, rfl⟩ : ∃ j, m = j + 1 := ⟨m - 1, by omega⟩
    walk_at "go"
    refine ⟨_, fun _ _ h => h, ?_⟩
    walk_at "go"
    refine' g_allW (α := Str) (W := fun c => c = toks.getD n "") (fun rest => ?main) ?rest
    case main =>
      refine g_iteD (fun hlt => ?_) (fun hlt => ?_)
      · walk_at "go"
        have hn : n < toks.length := by simpa using hlt
        obtain ⟨c, hc⟩ : ∃ c, toks[n]? = some c := ⟨_, List.getElem?_eq_getElem hn⟩
        refine g_ix_l (Or.inl (sqL_same hp s1)) (atI_map hc) ?_
        exact rest c (by rw [List.getD_eq_getElem?_getD, hc]; rfl)
      · walk_at "go1"
        refine rest "" ?_
        rw [List.getD_eq_getElem?_getD, List.getElem?_eq_none (by simp at hlt; omega)]
        rfl
    case rest =>
      intro c hc
      have hlc : c.length ≤ 10000 := by
        rw [hc, List.getD_eq_getElem?_getD]
        cases e : toks[n]? with
        | none => exact Nat.zero_le _
        | some d => exact hl d (List.mem_of_getElem? e)
      have hlen : as.length ≤ 4 := by have := Paired.length hpa; omega
      walk_at "go"
      refine' g_allW (α := Hp) (W := fun H2 => ∃ t, termOf names c = some t ∧ Same H H2 ∧ TermsAt H2 l (acc ++ [(f, t)])) (fun rest2 => ?main2) ?rest2
      case main2 =>
        refine g_iteD (fun hin => ?_) (fun hin => ?_)
        · walk_at "go"
          refine al fun a ha => ?_
          walk_at "go"
          have s2 := (s1.new (o := .tup [.int f, .str c]) ha).mut (o := .lst (as.map V.ref ++ [.ref a])) hl0
          have t2 : TermsAt _ l (acc ++ [(f, .nam c)]) := TermsAt.snoc (t := .nam c) (f := f) hla hpa ha
          change Same H (upd (upd H' a (.tup [.int f, .str c])) l _) at s2
          change TermsAt (upd (upd H' a (.tup [.int f, .str c])) l _) l _ at t2
          generalize upd (upd H' a (.tup [.int f, .str c])) l _ = H2 at s2 t2 ⊢
          exact rest2 H2 ⟨_, by unfold termOf; rw [if_pos hin], s2, t2⟩
        · walk_at "go"
          refine ⟨c, rfl, hlc, ?_⟩
          walk_at "go"
          refine g_ite (fun hn => ?_) (fun hn => ?_)
          · walk_at "go"
            refine g_int_s (isNum_int hn) (by have := (isNum_parts hn).2.1; omega) ?_
            walk_at "go"
            refine al fun a ha => ?_
            walk_at "go"
            have s2 := (s1.new (o := .tup [.int f, .int (numVal c)]) ha).mut (o := .lst (as.map V.ref ++ [.ref a])) hl0
            have t2 : TermsAt _ l (acc ++ [(f, .num (numVal c))]) := TermsAt.snoc (t := .num (numVal c)) (f := f) hla hpa ha
            change TermsAt (upd (upd H' a (.tup [.int f, .int (numVal c)])) l _) l _ at t2
            generalize upd (upd H' a (.tup [.int f, .int (numVal c)])) l _ = H2 at s2 t2 ⊢
            exact rest2 H2 ⟨_, by unfold termOf; rw [if_neg hin, if_pos hn], s2, t2⟩
          · walk_at "go"
            refine al fun a ha => ?_
            refine k a _ (s1.new ha) (s1.free ha) ?_
            have e : termOf names (toks.getD n "") = none := by
              rw [← hc]; unfold termOf; rw [if_neg hin, if_neg (by rw [hn]; exact Bool.false_ne_true)]
            rw [← hrd]
            unfold readS
            rw [e]
            exact upd_same
      case rest2 =>
        rintro H2 ⟨t, ht, s2, as2, hl2, hp2⟩
        have hlen2 : as2.length = acc.length + 1 := by have := Paired.length hp2; simpa using this
        have e : termOf names (toks.getD n "") = some t := by rw [← hc]; exact ht
        have fin : ∀ H3, Same H H3 → TermsAt H3 l (acc ++ [(f, t)]) → (toks.length ≤ n + 1 ∨ isOp (toks.getD (n + 1) "") = false ∨ acc.length + 1 = 5) → ∀ a, H3 a = none → Q (.ref a) (upd H3 a (.tup [.ref l, .int ((n : Int) + 1)])) := fun H3 s3 t3 hs a ha => by
          refine k a _ (s3.new ha) (s3.free ha) ?_
          rw [← hrd]
          unfold readS
          rw [e]
          dsimp only
          rw [if_pos hs]
          exact ⟨l, hl0, upd_same, t3.same ((Same.refl H3).new ha)⟩
        walk_at "go"
        refine g_iteD (fun h5 => ?_) (fun h5 => ?_)
        · walk_at "go"
          exact al fun a ha => fin H2 s2 ⟨as2, hl2, hp2⟩ (.inl (by simp at h5; omega)) a ha
        · walk_at "go"
          have hn1 : n + 1 < toks.length := by simp at h5; omega
          obtain ⟨d, hd⟩ : ∃ d, toks[n + 1]? = some d := ⟨_, List.getElem?_eq_getElem hn1⟩
          have hgd : toks.getD (n + 1) "" = d := by rw [List.getD_eq_getElem?_getD, hd]; rfl
          refine g_ix_l (Or.inl (sqL_same hp s2)) (atI_map (i := n + 1) hd) ?_
          walk_at "go"
          refine al fun b hb => ?_
          have s3 : Same H (upd H2 b (.tup [.str "+", .str "-"])) := s2.new hb
          have t3 : TermsAt (upd H2 b (.tup [.str "+", .str "-"])) l (acc ++ [(f, t)]) := TermsAt.same ⟨as2, hl2, hp2⟩ ((Same.refl H2).new hb)
          have hl3 : upd H2 b (.tup [.str "+", .str "-"]) l = some (.lst (as2.map V.ref)) := by walk_at "hp"
          have h3b : upd H2 b (.tup [.str "+", .str "-"]) b = some (.tup [.str "+", .str "-"]) := upd_same
          generalize upd H2 b (.tup [.str "+", .str "-"]) = H3 at s3 t3 hl3 h3b ⊢
          walk_at "go"
          rw [inV_ops]
          refine g_ite (fun h6 => ?_) (fun h6 => ?_)
          · walk_at "go"
            exact al fun a ha => fin H3 s3 t3 (.inr (.inl (by rw [hgd]; simpa using h6))) a ha
          · walk_at "go"
            refine g_iteD (fun h7 => ?_) (fun h7 => ?_)
            · walk_at "go"
              exact al fun a ha => fin H3 s3 t3 (.inr (.inr (by simp at h7; omega))) a ha
            · walk_at "go"
              refine g_ix_l (Or.inl (sqL_same hp s3)) (atI_map (i := n + 1) hd) ?_
              walk_at "go"
              have next : readS names toks m (n + 2) (signOf d) (acc ++ [(f, t)]) = readS names toks 5 s0 1 [] := by
                rw [← hrd]
                conv => rhs; unfold readS
                rw [e]
                dsimp only
                rw [if_neg ?_, hgd]
                rintro (z | z | z)
                · omega
                · rw [hgd] at z; rw [z] at h6; cases h6
                · simp at h7; omega
              have hm1 : 0 < m := by simp at h7; omega
              refine g_iteD (fun h8 => ?_) (fun h8 => ?_)
              · walk_at "go"
                refine ⟨m, by omega, n + 2, 1, acc ++ [(f, t)], _, rfl, s3, t3, by simp; omega, hm1, ?_⟩
                rw [← next, show signOf d = 1 by unfold signOf; rw [if_pos h8]]
              · walk_at "go"
                refine ⟨m, by omega, n + 2, -1, acc ++ [(f, t)], _, rfl, s3, t3, by simp; omega, hm1, ?_⟩
                rw [← next, show signOf d = -1 by unfold signOf; rw [if_neg h8]]
end
section
variable {P : Program} {w : World} {K : PySem.W.Frag} {mg : Str → Option Value} {base : Heap}
theorem ok_law_names {f : Addr} {fd : FuncData} (F : FnP K "_law_names" "_law_names" s_law_names f fd) (T : Txt K mg) (C_law_of : Cal P w K mg base 2 "_law_of" ["_law_bag", "_law_some"] (sp_law_of K)) (C_law_take : Cal P w K mg base 1 "_law_take" ["_law_bag", "_law_many"] (sp_law_take K))  : FnOk P w K mg base (L2.CX P w) 3 f fd ["_law_bag", "_law_many"] (sp_law_names K) := by
  refine F.ok sc_law_names (fun vs H Q E h => ?_) (fun cdv A outer s H vs Q E hr h => ?_)
  · obtain ⟨b, many, rfl, _⟩ := h
    rfl
  · have nd := sc_law_names.nd
    have tk := takes_of (E := E) (X := (cxOf (L2.CX P w) P w K mg base ["_law_bag", "_law_many", "_law_first", "_law_names_here", "_law_k", "_law_letters", "_law_turn"] "_law_names" (defScope s_law_names) f cdv A outer s H E)) rfl rfl rfl rfl
    have po : PassesOwn (model P w) (cxOf (L2.CX P w) P w K mg base ["_law_bag", "_law_many", "_law_first", "_law_names_here", "_law_k", "_law_letters", "_law_turn"] "_law_names" (defScope s_law_names) f cdv A outer s H E).A (cxOf (L2.CX P w) P w K mg base ["_law_bag", "_law_many", "_law_first", "_law_names_here", "_law_k", "_law_letters", "_law_turn"] "_law_names" (defScope s_law_names) f cdv A outer s H E).env (cxOf (L2.CX P w) P w K mg base ["_law_bag", "_law_many", "_law_first", "_law_names_here", "_law_k", "_law_letters", "_law_turn"] "_law_names" (defScope s_law_names) f cdv A outer s H E).xe := passes_of (X := (cxOf (L2.CX P w) P w K mg base ["_law_bag", "_law_many", "_law_first", "_law_names_here", "_law_k", "_law_letters", "_law_turn"] "_law_names" (defScope s_law_names) f cdv A outer s H E)) rfl
    obtain ⟨b, many, rfl, hb, hm, k⟩ := h
    refine ⟨_, (pss_cons (q_set 2 nd (q_call C_law_take tk (hr.mono (by decide)) (pa_cons (pv 0) (pa_cons pe_int pa_nil)))) (pss_cons (q_set 3 nd (pe_lst pa_nil)) (pss_cons (ps_for po rfl (pi_range1 rfl T.n_range (pa_cons (pv 1) pa_nil)) (q_name 4 nd) (pss_cons (ps_setLc (i := 5) (own := [("_law_turn", 6)]) (tt := tYes) rfl nd rfl rfl (sw_true rfl rfl rfl (by decide +kernel)) (pi_range1 rfl T.n_range (pa_cons (q_call C_law_of tk (hr.mono (by decide)) (pa_cons (pv 0) (pa_cons (pe_lst (pa_cons pe_int (pa_cons pe_int (pa_cons pe_int (pa_cons pe_int (pa_cons pe_int pa_nil)))))) pa_nil))) pa_nil)) (blkOk_by (own := [("_law_turn", 6)]) (N := ["_law_bag", "_law_many", "_law_first", "_law_names_here", "_law_k", "_law_letters", "_law_turn"]) (sc := defScope s_law_names) (by decide +kernel)) (fun _ _ _ _ _ => (q_name 6 nd)) (fun _ _ _ _ _ => pts_nil) (fun _ _ _ _ _ => (pe_ix (ix_dyn K) pe_str (q_call C_law_take takes0 (hr.mono (by decide)) (pa_cons (pv 0) (pa_cons pe_int pa_nil))) (fun _ _ => rfl)))) (pss_one (ps_expr (q_bm K PySem.F.plainAttrs_list PySem.F.slot_list_append PySem.F.type_list_append m_append (pv 3) (pa_cons (pe_op op_dAdd (pe_ix (ix_dyn K) pe_str (pe_op op_dMod (pe_op op_dAdd (pv 2) (pv 4)) pe_int) (fun _ _ => rfl)) (q_bm K PySem.F.plainAttrs_str PySem.F.slot_str_join PySem.F.type_str_join (m_join K) pe_str (pa_cons (pv 5) pa_nil))) pa_nil)))))) (pss_one (ps_ret (pv 3)))))), ?_⟩
    refine g_start (σ' := some _ :: some _ :: none :: none :: none :: none :: none :: []) rfl ?_
    walk_at "go"
    refine ⟨b, 14, rfl, hb, by decide, by decide, fun fs H1 f0 f1 s1 b1 => ?_⟩
    walk_at "go"
    refine al fun p hp => ?_
    have npb : p ≠ b := b1.ne hp
    have hp0 : H p = none := s1.free (by simpa using npb) hp
    walk_at "go"
    refine lp_it walk_range (fun i σ' H' => ∃ (names : List Str) (u v : Option V), σ' = [some (.ref b), some (.int (many : Nat)), some (.int fs), some (.ref p), u, v, none] ∧ Sx [b] H H' ∧ Bag H' b ∧ H' p = some (.lst (names.map V.str)) ∧ names.length = i ∧ NamesOk fs.toNat names) ?_ (fun _ _ _ _ _ => trivial) ?_ ?_
    · exact ⟨[], none, none, rfl, s1.new hp, b1.new hp, upd_same, rfl, NamesOk.nil _⟩
    · rintro i x σ' H' H2 hi ⟨names, u, v, rfl, s2, b2, hp2, hl, ok⟩ ⟨rfl, rfl⟩
      walk_at "go"
      refine al fun q hq => ?_
      have nqb : q ≠ b := b2.ne hq
      have nqp : q ≠ p := (ne_of_none hp2 hq).symm
      walk_at "go"
      refine ⟨b, q, _, rfl, b2.new hq, upd_same, nqb, by decide, by decide, fun w H3 hw s3 b3 => ?_⟩
      obtain ⟨n, rfl, n0, n7⟩ : ∃ n : Int, w = .int n ∧ 0 ≤ n ∧ n ≤ 7 := by
        simp only [List.mem_cons, List.not_mem_nil, or_false] at hw
        rcases hw with rfl | rfl | rfl | rfl | rfl <;> exact ⟨_, rfl, by decide, by decide⟩
      have hp3 : H3 p = some (.lst (names.map V.str)) := s3.get1 npb (by rw [upd_ne nqp.symm]; exact hp2)
      have s4 : Sx [b] H H3 := Sx.trans (s2.new hq) s3
      clear s3
      walk_at "go"
      intro D hD
      have nDb : D ≠ b := b3.ne hD
      have nDp : D ≠ p := (ne_of_none hp3 hD).symm
      have hD0 : H D = none := s4.free (by simpa using nDb) hD
      refine lc_by walk_range (fun j H' => ∃ ls : List Str, H' D = some (.lst (ls.map V.str)) ∧ ls.length = j ∧ Lets ls ∧ Sx [b] H H' ∧ Bag H' b ∧ H' p = some (.lst (names.map V.str))) ?_ (fun _ _ _ _ => trivial) ?_ ?_
      · exact ⟨[], upd_same, rfl, (fun t ht => by simp at ht), s4.new hD, b3.new hD, by walk_at "hp"⟩
      · rintro j x H5 H6 hj ⟨ls, hl1, hl2, hl3, s5, b5, hp5⟩ ⟨rfl, rfl⟩
        walk_at "go"
        refine ⟨rfl, ?_⟩
        walk_at "go"
        refine ⟨b, 26, rfl, b5, by decide, by decide, fun d H7 d0 d1 s7 b7 => ?_⟩
        refine g_ix_s (by decide +kernel) (atI_abc d0 d1) ?_
        refine ⟨_, s7.get1 nDb hl1, by rw [sizeLine_eq]; simp; omega, ls ++ [⟨#[97 + d.toNat]⟩], by rw [upd_same, List.map_append]; rfl, by simp [hl2], lets_snoc hl3 (by omega) (by omega), ?_, b7.put nDb.symm, ?_⟩
        · exact (s5.trans s7).mut hD0
        · rw [upd_ne nDp.symm]; exact s7.get1 npb hp5
      · rintro H5 ⟨ls, hl1, hl2, hl3, s5, b5, hp5⟩
        walk_at "go"
        obtain ⟨c, hc, hc1, hc2⟩ := abc14_at ((fs.toNat + i) % 14) (Nat.mod_lt _ (by decide))
        have e14 := atI_of hc
        rw [show (((fs.toNat + i) % 14 : Nat) : Int) = (fs + (0 + (i : Int))) % 14 by omega] at e14
        refine g_ix_s (by decide +kernel) e14 ?_
        walk_at "go"
        obtain ⟨j1, j2⟩ := lets_join hl3
        have jl := sum_len_le (lets_len hl3)
        have jt : (Txt.join "" ls).length = ls.length := by rw [show Txt.join "" ls = Str.join "" ls from StrLaws.glued_eq_join _ _, ← j1]; simp [Str.length]
        refine g_join (ys := ls) (Or.inl (SqL.of hl1)) (by rw [show (("" : Str)).length = 0 from rfl]; omega) ?_
        refine g_add_s (by rw [jt, sizeLine_eq, show (⟨#[c]⟩ : Str).length = 1 from rfl]; omega) ?_
        walk_at "go"
        refine ⟨names ++ [⟨#[c]⟩ ++ Txt.join "" ls], _, _, rfl, s5.mut hp0, b5.put npb.symm, by rw [upd_same, List.map_append]; rfl, by simp [hl], ok.snoc ⟨c, (Str.join "" ls).cps.toList, ?_, by rw [hl]; exact hc, by rw [j1]; omega, j2⟩⟩
        rw [Str.cps_append, show Txt.join "" ls = Str.join "" ls from StrLaws.glued_eq_join _ _]
        simp
    · rintro σ' H' ⟨names, u, v, rfl, s2, b2, hp2, hl, ok⟩
      walk_at "go"
      exact k p fs.toNat names H' s2 b2 hp0 hp2 (by simpa using hl) ok
end
section
variable {P : Program} {w : World} {K : PySem.W.Frag} {mg : Str → Option Value} {base : Heap}
theorem ok_Reader_peek {f : Addr} {fd : FuncData} (F : FnP K "peek" "Reader.peek" s_Reader_peek f fd) (T : Txt K mg)   : FnOk P w K mg base (L2.CX P w) 1 f fd ["self"] (sp_Reader_peek K) := by
  refine F.ok sc_Reader_peek (fun vs H Q E h => ?_) (fun cdv A outer s H vs Q E hr h => ?_)
  · obtain ⟨a, l, n, rfl, _⟩ := h
    rfl
  · have nd := sc_Reader_peek.nd
    have tk := takes_of (E := E) (X := (cxOf (L2.CX P w) P w K mg base ["self"] "Reader.peek" (defScope s_Reader_peek) f cdv A outer s H E)) rfl rfl rfl rfl
    have po : PassesOwn (model P w) (cxOf (L2.CX P w) P w K mg base ["self"] "Reader.peek" (defScope s_Reader_peek) f cdv A outer s H E).A (cxOf (L2.CX P w) P w K mg base ["self"] "Reader.peek" (defScope s_Reader_peek) f cdv A outer s H E).env (cxOf (L2.CX P w) P w K mg base ["self"] "Reader.peek" (defScope s_Reader_peek) f cdv A outer s H E).xe := passes_of (X := (cxOf (L2.CX P w) P w K mg base ["self"] "Reader.peek" (defScope s_Reader_peek) f cdv A outer s H E)) rfl
    have cR := T.c_Reader
    have a1 := T.a_Reader_tokens
    have a2 := T.a_Reader_names
    have a3 := T.a_Reader_handles
    have a4 := T.a_Reader_requests
    have a5 := T.a_Reader_at
    
    obtain ⟨a, l, n, rfl, ⟨h1, h2, h3, h4, h5⟩, k⟩ := h
    refine ⟨_, (pss_cons (ps_if (pt_cmpR op_dLt (q_fld K (pv 0)) (pe_callB (cl_len K) (by rfl) T.n_len bt_len (pa_cons (q_fld K (pv 0)) pa_nil)) (nomark _)) (pss_one (ps_ret (pe_ix (ix_dyn K) (q_fld K (pv 0)) (q_fld K (pv 0)) (fun _ _ => rfl)))) pss_nil) (pss_one (ps_ret pe_str))), ?_⟩
    refine g_start (σ' := some _ :: []) rfl ?_
    walk_at "go"
    refine g_iteD (fun hlt => ?_) (fun hlt => ?_)
    · walk_at "go"
      refine g_ix_l (Or.inl (SqL.of h2)) (atI_map (pk_in (by simpa using hlt))) ?_
      exact k
    · walk_at "go"
      rw [pk_out (by simp at hlt; omega)] at k
      exact k
end
section
variable {P : Program} {w : World} {K : PySem.W.Frag} {mg : Str → Option Value} {base : Heap}
theorem ok_Reader_take {f : Addr} {fd : FuncData} (F : FnP K "take" "Reader.take" s_Reader_take f fd) (T : Txt K mg) (N_Reader_peek : MtC P w K mg base 1 (He.ga K "Reader") "peek" ["self"] (sp_Reader_peek K)) (X_BadCondition : XC P w K mg base 1 "BadCondition" "at" (He.ga K "BadCondition"))  : FnOk P w K mg base (L2.CX P w) 3 f fd ["self", "allowed"] (sp_Reader_take K) := by
  refine F.ok sc_Reader_take (fun vs H Q E h => ?_) (fun cdv A outer s H vs Q E hr h => ?_)
  · obtain ⟨a, l, n, p, al, rfl, _⟩ := h
    rfl
  · have nd := sc_Reader_take.nd
    have tk := takes_of (E := E) (X := (cxOf (L2.CX P w) P w K mg base ["self", "allowed", "token"] "Reader.take" (defScope s_Reader_take) f cdv A outer s H E)) rfl rfl rfl rfl
    have po : PassesOwn (model P w) (cxOf (L2.CX P w) P w K mg base ["self", "allowed", "token"] "Reader.take" (defScope s_Reader_take) f cdv A outer s H E).A (cxOf (L2.CX P w) P w K mg base ["self", "allowed", "token"] "Reader.take" (defScope s_Reader_take) f cdv A outer s H E).env (cxOf (L2.CX P w) P w K mg base ["self", "allowed", "token"] "Reader.take" (defScope s_Reader_take) f cdv A outer s H E).xe := passes_of (X := (cxOf (L2.CX P w) P w K mg base ["self", "allowed", "token"] "Reader.take" (defScope s_Reader_take) f cdv A outer s H E)) rfl
    have cR := T.c_Reader
    have a1 := T.a_Reader_tokens
    have a2 := T.a_Reader_names
    have a3 := T.a_Reader_handles
    have a4 := T.a_Reader_requests
    have a5 := T.a_Reader_at
    
    obtain ⟨a, l, n, p, al, rfl, hR, hp, kE, kQ⟩ := h
    have hR' := hR
    obtain ⟨h1, h2, h3, h4, h5⟩ := hR
    refine ⟨_, (pss_cons (q_set 2 nd (q_meth0 N_Reader_peek tk (hr.mono (by decide)) (pv 0))) (pss_cons (ps_if (pt_cmpR (op_dNotIn K) (pv 2) (pv 1) (by rfl)) (pss_one (q_raise X_BadCondition tk (hr.mono (by decide)) (pa_cons (q_fld K (pv 0)) pa_nil))) pss_nil) (pss_cons (q_afld K (pv 0) pe_int in_add) (pss_one (ps_ret (pv 2)))))), ?_⟩
    refine g_start (σ' := some _ :: some _ :: none :: []) rfl ?_
    walk_at "go"
    refine ⟨a, l, n, rfl, hR', ?_⟩
    walk_at "go"
    rcases e : takeR al l.toks n with x | ⟨t, m⟩
    · have hno : pk l.toks n ∉ al := fun z => by unfold takeR at e; rw [if_pos z] at e; cases e
      have ex : n = x := by unfold takeR at e; rw [if_neg hno] at e; cases e; rfl
      subst ex
      refine g_iteN (fun _ => ?_) (fun z => absurd z hno)
      walk_at "go"
      intro d hd
      exact kE n e d hd
    · have hin : pk l.toks n ∈ al := by
        by_cases z : pk l.toks n ∈ al
        · exact z
        · unfold takeR at e; rw [if_neg z] at e; cases e
      refine g_iteN (fun z => absurd hin z) (fun _ => ?_)
      have e' := e
      unfold takeR at e'
      rw [if_pos hin] at e'
      cases e'
      walk_at "go"
      exact kQ _ _ e _ ((Sx.refl H).put (by simp)) (hR'.step (m := n + 1) (by omega))
end
section
variable {P : Program} {w : World} {K : PySem.W.Frag} {mg : Str → Option Value} {base : Heap}
theorem ok_Reader_sum_terms {f : Addr} {fd : FuncData} (F : FnP K "sum_terms" "Reader.sum_terms" s_Reader_sum_terms f fd) (T : Txt K mg) (C_read_sum : Cal P w K mg base 2 "read_sum" ["tokens", "start", "names"] (sp_read_sum K)) (X_BadCondition : XC P w K mg base 1 "BadCondition" "at" (He.ga K "BadCondition"))  : FnOk P w K mg base (L2.CX P w) 3 f fd ["self"] (sp_Reader_sum_terms K) := by
  refine F.ok sc_Reader_sum_terms (fun vs H Q E h => ?_) (fun cdv A outer s H vs Q E hr h => ?_)
  · obtain ⟨a, l, n, rfl, _⟩ := h
    rfl
  · have nd := sc_Reader_sum_terms.nd
    have tk := takes_of (E := E) (X := (cxOf (L2.CX P w) P w K mg base ["self", "terms", "stop"] "Reader.sum_terms" (defScope s_Reader_sum_terms) f cdv A outer s H E)) rfl rfl rfl rfl
    have po : PassesOwn (model P w) (cxOf (L2.CX P w) P w K mg base ["self", "terms", "stop"] "Reader.sum_terms" (defScope s_Reader_sum_terms) f cdv A outer s H E).A (cxOf (L2.CX P w) P w K mg base ["self", "terms", "stop"] "Reader.sum_terms" (defScope s_Reader_sum_terms) f cdv A outer s H E).env (cxOf (L2.CX P w) P w K mg base ["self", "terms", "stop"] "Reader.sum_terms" (defScope s_Reader_sum_terms) f cdv A outer s H E).xe := passes_of (X := (cxOf (L2.CX P w) P w K mg base ["self", "terms", "stop"] "Reader.sum_terms" (defScope s_Reader_sum_terms) f cdv A outer s H E)) rfl
    have cR := T.c_Reader
    have a1 := T.a_Reader_tokens
    have a2 := T.a_Reader_names
    have a3 := T.a_Reader_handles
    have a4 := T.a_Reader_requests
    have a5 := T.a_Reader_at
    
    obtain ⟨a, l, n, rfl, hR, hl, kE, kQ⟩ := h
    have hR' := hR
    obtain ⟨h1, h2, h3, h4, h5⟩ := hR
    refine ⟨_, (pss_cons (ps_asg (q_call C_read_sum tk (hr.mono (by decide)) (pa_cons (q_fld K (pv 0)) (pa_cons (q_fld K (pv 0)) (pa_cons (q_fld K (pv 0)) pa_nil)))) (q_gtup K 2 (pgs_cons (q_name 1 nd) (pgs_cons (q_name 2 nd) pgs_nil)))) (pss_cons (q_sfld K (pv 0) (pv 2)) (pss_cons (ps_if (pt_cmpR op_dIs (pv 1) pe_non (nomark _)) (pss_one (q_raise X_BadCondition tk (hr.mono (by decide)) (pa_cons (pv 2) pa_nil))) pss_nil) (pss_one (ps_ret (pv 1)))))), ?_⟩
    refine g_start (σ' := some _ :: none :: none :: []) rfl ?_
    walk_at "go"
    refine ⟨a.p, a.q, l.toks, l.names, n, rfl, SqL.of h2, SqL.of h3, hl, fun t H1 s1 ht hrs => ?_⟩
    have hR1 := hR'.same s1
    obtain ⟨g1, g2, g3, g4, g5⟩ := hR1
    unfold sumR at kE kQ
    rcases e : readS l.names l.toks 5 n 1 [] with ⟨_ | ts, m⟩
    · rw [e] at hrs kE
      have hrs : H1 t = some (.tup [.non, .int (m : Nat)]) := hrs
      walk_at "go"
      refine g_iteD (fun _ => ?_) (fun z => absurd rfl z)
      walk_at "go"
      intro d hd
      exact kE m rfl d _ (((Sx.of s1).put (by simp)).new hd) upd_same
    · rw [e] at hrs kQ
      obtain ⟨p, hp0, ht1, hts⟩ := hrs
      walk_at "go"
      refine g_iteD (fun z => by cases z) (fun _ => ?_)
      walk_at "go"
      refine kQ ts m rfl p _ ((Sx.of s1).put (by simp)) (RdAt.step ⟨g1, g2, g3, g4, g5⟩ rfl) hp0 (hts.sx ((Sx.refl H1).put (by simp)) g1)
end
section
variable {P : Program} {w : World} {K : PySem.W.Frag} {mg : Str → Option Value} {base : Heap}
theorem ok_Reader_read_atom {f : Addr} {fd : FuncData} (F : FnP K "read_atom" "Reader.read_atom" s_Reader_read_atom f fd) (T : Txt K mg) (N_Reader_peek : MtC P w K mg base 1 (He.ga K "Reader") "peek" ["self"] (sp_Reader_peek K)) (N_Reader_sum_terms : MtC P w K mg base 3 (He.ga K "Reader") "sum_terms" ["self"] (sp_Reader_sum_terms K)) (N_Reader_take : MtC P w K mg base 3 (He.ga K "Reader") "take" ["self", "allowed"] (sp_Reader_take K))  : FnOk P w K mg base (L2.CX P w) 4 f fd ["self"] (sp_Reader_read_atom K) := by
  refine F.ok sc_Reader_read_atom (fun vs H Q E h => ?_) (fun cdv A outer s H vs Q E hr h => ?_)
  · obtain ⟨a, l, n, rfl, _⟩ := h
    rfl
  · have nd := sc_Reader_read_atom.nd
    have tk := takes_of (E := E) (X := (cxOf (L2.CX P w) P w K mg base ["self", "wanted", "word", "left", "sign"] "Reader.read_atom" (defScope s_Reader_read_atom) f cdv A outer s H E)) rfl rfl rfl rfl
    have po : PassesOwn (model P w) (cxOf (L2.CX P w) P w K mg base ["self", "wanted", "word", "left", "sign"] "Reader.read_atom" (defScope s_Reader_read_atom) f cdv A outer s H E).A (cxOf (L2.CX P w) P w K mg base ["self", "wanted", "word", "left", "sign"] "Reader.read_atom" (defScope s_Reader_read_atom) f cdv A outer s H E).env (cxOf (L2.CX P w) P w K mg base ["self", "wanted", "word", "left", "sign"] "Reader.read_atom" (defScope s_Reader_read_atom) f cdv A outer s H E).xe := passes_of (X := (cxOf (L2.CX P w) P w K mg base ["self", "wanted", "word", "left", "sign"] "Reader.read_atom" (defScope s_Reader_read_atom) f cdv A outer s H E)) rfl
    have cR := T.c_Reader
    have a1 := T.a_Reader_tokens
    have a2 := T.a_Reader_names
    have a3 := T.a_Reader_handles
    have a4 := T.a_Reader_requests
    have a5 := T.a_Reader_at
    
    obtain ⟨a, l, n, rfl, hR, hl, kE, kQ⟩ := h
    refine ⟨_, (pss_cons (q_set 1 nd pe_bl) (pss_cons (ps_while po (pt_cmpR (op_dEq K hr.units) (q_meth0 N_Reader_peek tk (hr.mono (by decide)) (pv 0)) pe_str (nomark _)) (pss_cons (q_afld K (pv 0) pe_int in_add) (pss_one (q_set 1 nd (q_notT K (pv 1)))))) (pss_cons (q_set 2 nd (q_meth0 N_Reader_peek tk (hr.mono (by decide)) (pv 0))) (pss_cons (ps_match (pv 2) (pmc_consG (pp_or (ppl_cons pp_val (ppl_cons pp_val ppl_nil))) (q_truth K (q_fld K (pv 0))) (pss_cons (q_afld K (pv 0) pe_int in_add) (pss_one (ps_ret (pe_tup (pa_cons (pv 1) (pa_cons (pv 2) (pa_cons (q_meth N_Reader_take tk (hr.mono (by decide)) (pv 0) (pa_cons (q_fld K (pv 0)) pa_nil)) (pa_cons pe_int pa_nil)))))))) (pmc_consG pp_val (q_truth K (q_fld K (pv 0))) (pss_cons (q_afld K (pv 0) pe_int in_add) (pss_one (ps_ret (pe_tup (pa_cons (pv 1) (pa_cons (pv 2) (pa_cons (q_meth N_Reader_take tk (hr.mono (by decide)) (pv 0) (pa_cons (q_fld K (pv 0)) pa_nil)) (pa_cons pe_int pa_nil)))))))) pmc_nil))) (pss_cons (q_set 3 nd (q_meth0 N_Reader_sum_terms tk (hr.mono (by decide)) (pv 0))) (pss_cons (q_set 4 nd (q_meth N_Reader_take tk (hr.mono (by decide)) (pv 0) (pa_cons (q_glob T.g_SIGNS) pa_nil))) (pss_one (ps_ret (pe_tup (pa_cons (pv 1) (pa_cons (pv 4) (pa_cons (pv 3) (pa_cons (q_meth0 N_Reader_sum_terms tk (hr.mono (by decide)) (pv 0)) pa_nil))))))))))))), ?_⟩
    refine g_start (σ' := some _ :: none :: none :: none :: none :: []) rfl ?_
    walk_at "go"
    refine ⟨fun m σ' H' => ∃ (n1 : Nat) (b : Bool), σ' = [some (.ref a.r), some (.bl b), none, none, none] ∧ Sx [a.r] H H' ∧ RdAt K H' a l n1 ∧ l.toks.length < n1 + m ∧ nots l.toks m n1 b = nots l.toks (l.toks.length + 1) n true, ⟨l.toks.length + 1, n, true, rfl, Sx.refl H, hR, by omega, rfl⟩, ?_⟩
    rintro m σ' H1 ⟨n1, b, rfl, s1, hR1, hm, hnn⟩
    have hR1' := hR1
    obtain ⟨h1, h2, h3, h4, h5⟩ := hR1
    obtain ⟨np, nq, nh, nk⟩ := hR1'.ne
    walk_at "go"
    refine ⟨a, l, n1, rfl, hR1', ?_⟩
    walk_at "go"
    refine g_iteD (fun hno => ?_) (fun hno => ?_)
    · have hlt := pk_lt hno (by decide +kernel)
      obtain ⟨m, rfl⟩ : ∃ j, m = j + 1 := ⟨m - 1, by omega⟩
      refine ⟨_, fun _ _ h => h, ?_⟩
      walk_at "go"
      refine ⟨m, by omega, n1 + 1, !b, rfl, s1.put (by simp), hR1'.step (m := n1 + 1) (by omega), by omega, ?_⟩
      rw [← hnn]
      conv => rhs; unfold nots
      rw [if_pos hno]
    · have hnn2 : nots l.toks (l.toks.length + 1) n true = (n1, b) := by
        rw [← hnn]
        cases m with
        | zero => rfl
        | succ m => unfold nots; rw [if_neg hno]
      have ea : atomR l n = atomB l b n1 := by unfold atomR; rw [hnn2]
      rw [ea] at kE kQ
      walk_at "go"
      refine ⟨a, l, n1, rfl, hR1', ?_⟩
      walk_at "go"
      have wd : ∀ (w : Addr) (ws : List Str) (H2 : Hp), H2 w = some (.lst (ws.map V.str)) → Sx [a.r] H H2 → RdAt K H2 a l (n1 + 1) → (∀ x m, takeR ws l.toks (n1 + 1) = .ok (x, m) → atomB l b n1 = .ok (.word b (pk l.toks n1) x, m)) → (∀ e, takeR ws l.toks (n1 + 1) = .error e → atomB l b n1 = .error e) →
          sp_Reader_take K [.ref a.r, .ref w] H2 (fun x H1 => ([.bl b, .str (pk l.toks n1), x, .int 0] : List V).length ≤ sizeLine ∧ ∀ p, H1 p = none → Q (.ref p) (upd H1 p (.tup [.bl b, .str (pk l.toks n1), x, .int 0]))) (fun cls d H => E cls d H) := by
        intro w ws H2 hw s2 hR2 hok her
        refine ⟨a, l, n1 + 1, w, ws, rfl, hR2, Or.inl (SqL.of hw), fun e he d hd => kE e (her e he) d _ (s2.new hd) upd_same, fun t m ht H3 s3 hR3 => al fun p hp => ?_⟩
        exact kQ _ m (hok t m ht) p _ ((s2.trans s3).new hp) (hR3.same ((Same.refl H3).new hp)) (hR3.fr (s2.trans s3) hp) upd_same
      refine' g_allP (W := ¬ (pk l.toks n1 ∈ (["none", "live"] : List Str) ∧ l.hs ≠ []) ∧ ¬ (pk l.toks n1 ∈ (["open"] : List Str) ∧ l.rs ≠ [])) (fun rest => ?main) ?rest
      case main =>
        refine' g_allP (W := ¬ (pk l.toks n1 ∈ (["none", "live"] : List Str) ∧ l.hs ≠ [])) (fun rest2 => ?main2) ?rest2
        case main2 =>
          refine g_iteD (fun hw => ?_) (fun hw => ?_)
          · walk_at "go"
            refine tru_l (SqL.of h4) ?_
            refine g_ite (fun hh => ?_) (fun hh => ?_)
            · have hc : pk l.toks n1 ∈ (["none", "live"] : List Str) ∧ l.hs ≠ [] := ⟨hw, fun z => by rw [z] at hh; cases hh⟩
              walk_at "go"
              exact wd a.h l.hs _ (by walk_at "hp") (s1.put (by simp)) (hR1'.step (m := n1 + 1) (by omega)) (fun x m e => by unfold atomB; rw [if_pos hc, e]) (fun x e => by unfold atomB; rw [if_pos hc, e])
            · exact rest2 fun z => z.2 (by cases e : l.hs with | nil => rfl | cons _ _ => rw [e] at hh; cases hh)
          · exact rest2 fun z => hw z.1
        case rest2 =>
          intro n2
          walk_at "go"
          refine g_iteD (fun hw => ?_) (fun hw => ?_)
          · walk_at "go"
            refine tru_l (SqL.of h5) ?_
            refine g_ite (fun hh => ?_) (fun hh => ?_)
            · have hc : pk l.toks n1 ∈ (["open"] : List Str) ∧ l.rs ≠ [] := ⟨hw, fun z => by rw [z] at hh; cases hh⟩
              walk_at "go"
              exact wd a.k l.rs _ (by walk_at "hp") (s1.put (by simp)) (hR1'.step (m := n1 + 1) (by omega)) (fun x m e => by unfold atomB; rw [if_neg n2, if_pos hc, e]) (fun x e => by unfold atomB; rw [if_neg n2, if_pos hc, e])
            · exact rest ⟨n2, fun z => z.2 (by cases e : l.rs with | nil => rfl | cons _ _ => rw [e] at hh; cases hh)⟩
          · exact rest ⟨n2, fun z => hw z.1⟩
      case rest =>
        rintro ⟨n2, n3⟩
        walk_at "go"
        refine ⟨a, l, n1, rfl, hR1', hl, fun e he d H2 s2 hd => kE e (by unfold atomB; rw [if_neg n2, if_neg n3, he]) d H2 (s1.trans s2) hd, fun x m1 hx p1 H2 s2 hR2 hp1 ht1 => ?_⟩
        have hr2 := hR2.1
        walk_at "go"
        refine ⟨a, l, m1, He.ga K "SIGNS", signs6, rfl, hR2, Or.inr (T.t_SIGNS H2), fun e he d hd => kE e (by unfold atomB; rw [if_neg n2, if_neg n3, hx]; dsimp only; rw [he]) d _ ((s1.trans s2).new hd) upd_same, fun t2 m2 ht2 H3 s3 hR3 => ?_⟩
        have hr3 := hR3.1
        walk_at "go"
        refine ⟨a, l, m2, rfl, hR3, hl, fun e he d H4 s4 hd => kE e (by unfold atomB; rw [if_neg n2, if_neg n3, hx]; dsimp only; rw [ht2]; dsimp only; rw [he]) d H4 (((s1.trans s2).trans s3).trans s4) hd, fun y m3 hy p3 H4 s4 hR4 hp3 ht3 => ?_⟩
        have s5 := ((s1.trans s2).trans s3).trans s4
        walk_at "go"
        refine al fun t ht => ?_
        have tA := (ht1.sx s3 hR2.1).sx s4 hR3.1
        exact kQ (.cmp b t2 x y) m3 (by unfold atomB; rw [if_neg n2, if_neg n3, hx]; dsimp only; rw [ht2]; dsimp only; rw [hy]) t _ (s5.new ht) (hR4.same ((Same.refl H4).new ht)) (hR4.fr s5 ht)
          ⟨p1, p3, upd_same, hR1'.fr s1 hp1, hR3.fr ((s1.trans s2).trans s3) hp3, tA.same ((Same.refl H4).new ht), ht3.same ((Same.refl H4).new ht)⟩
end
section
variable {P : Program} {w : World} {K : PySem.W.Frag} {mg : Str → Option Value} {base : Heap}
theorem ok_Reader_read_part {f : Addr} {fd : FuncData} (F : FnP K "read_part" "Reader.read_part" s_Reader_read_part f fd) (T : Txt K mg) (N_Reader_peek : MtC P w K mg base 1 (He.ga K "Reader") "peek" ["self"] (sp_Reader_peek K)) (N_Reader_read_atom : MtC P w K mg base 4 (He.ga K "Reader") "read_atom" ["self"] (sp_Reader_read_atom K))  : FnOk P w K mg base (L2.CX P w) 5 f fd ["self"] (sp_Reader_read_part K) := by
  refine F.ok sc_Reader_read_part (fun vs H Q E h => ?_) (fun cdv A outer s H vs Q E hr h => ?_)
  · obtain ⟨a, l, n, rfl, _⟩ := h
    rfl
  · have nd := sc_Reader_read_part.nd
    have tk := takes_of (E := E) (X := (cxOf (L2.CX P w) P w K mg base ["self", "atoms"] "Reader.read_part" (defScope s_Reader_read_part) f cdv A outer s H E)) rfl rfl rfl rfl
    have po : PassesOwn (model P w) (cxOf (L2.CX P w) P w K mg base ["self", "atoms"] "Reader.read_part" (defScope s_Reader_read_part) f cdv A outer s H E).A (cxOf (L2.CX P w) P w K mg base ["self", "atoms"] "Reader.read_part" (defScope s_Reader_read_part) f cdv A outer s H E).env (cxOf (L2.CX P w) P w K mg base ["self", "atoms"] "Reader.read_part" (defScope s_Reader_read_part) f cdv A outer s H E).xe := passes_of (X := (cxOf (L2.CX P w) P w K mg base ["self", "atoms"] "Reader.read_part" (defScope s_Reader_read_part) f cdv A outer s H E)) rfl
    have cR := T.c_Reader
    have a1 := T.a_Reader_tokens
    have a2 := T.a_Reader_names
    have a3 := T.a_Reader_handles
    have a4 := T.a_Reader_requests
    have a5 := T.a_Reader_at
    
    obtain ⟨a, l, n, rfl, hR, hl, kE, kQ⟩ := h
    have h1 := hR.1
    refine ⟨_, (pss_cons (q_set 1 nd (pe_lst (pa_cons (q_meth0 N_Reader_read_atom tk (hr.mono (by decide)) (pv 0)) pa_nil))) (pss_cons (ps_while po (pt_cmpR (op_dEq K hr.units) (q_meth0 N_Reader_peek tk (hr.mono (by decide)) (pv 0)) pe_str (nomark _)) (pss_cons (q_afld K (pv 0) pe_int in_add) (pss_one (ps_expr (q_bm K PySem.F.plainAttrs_list PySem.F.slot_list_append PySem.F.type_list_append m_append (pv 1) (pa_cons (q_meth0 N_Reader_read_atom tk (hr.mono (by decide)) (pv 0)) pa_nil)))))) (pss_one (ps_ret (pv 1))))), ?_⟩
    refine g_start (σ' := some _ :: none :: []) rfl ?_
    walk_at "go"
    have eM : partR l n = match atomR l n with
      | .error e => .error e
      | .ok (x, m) => moreR "and" (atomR l) l.toks (l.toks.length + 1) [x] m := by
      unfold partR manyR
      cases atomR l n with
      | error e => rfl
      | ok x => cases x; rfl
    rcases e0 : atomR l n with e | ⟨x0, m0⟩
    · rw [e0] at eM
      refine ⟨a, l, n, rfl, hR, hl.1, fun x hx => ?_, fun x m hx => ?_⟩
      · rw [e0] at hx
        cases hx
        exact kE e eM
      · rw [e0] at hx
        cases hx
    rw [e0] at eM
    dsimp only at eM
    refine ⟨a, l, n, rfl, hR, hl.1, (fun x hx => by rw [e0] at hx; cases hx), fun x m hx t0 H1 s1 hR1 ht0 hat => ?_⟩
    rw [e0] at hx
    cases hx
    walk_at "go"
    refine al fun p hp => ?_
    have hp0 := hR1.fr s1 hp
    walk_at "go"
    rw [eM] at kE kQ
    clear eM
    refine ⟨fun m σ' H' => ∃ (n1 : Nat) (acc : List _) (as : List Addr), σ' = [some (.ref a.r), some (.ref p)] ∧ Sx [a.r] H H' ∧ RdAt K H' a l n1 ∧ H' p = some (.lst (as.map V.ref)) ∧ Paired (AtomAt (fun a => H a = none ∧ a ≠ p) H') as acc ∧ n ≤ n1 ∧ acc.length ≤ n1 + 1 ∧ l.toks.length < n1 + m ∧ moreR "and" (atomR l) l.toks m acc n1 = moreR "and" (atomR l) l.toks (l.toks.length + 1) [x0] m0,
      ⟨l.toks.length + 1, m0, [x0], [t0], rfl, s1.new hp, hR1.same ((Same.refl H1).new hp), upd_same, .cons (AtomAt.mv hat ((Mv.weak fun b hb fb => ⟨fb, fun z => hb (z ▸ hp)⟩).trans (Mv.same ((Same.refl H1).new hp)))) .nil, atomR_ge e0, by show 1 ≤ m0 + 1; omega, by omega, rfl⟩, ?_⟩
    rintro m σ' H2 ⟨n1, acc, as, rfl, s2, hR2, hp2, hpa, hn1, hac, hm, hmo⟩
    have h21 := hR2.1
    walk_at "go"
    refine ⟨a, l, n1, rfl, hR2, ?_⟩
    walk_at "go"
    refine g_iteD (fun hs => ?_) (fun hs => ?_)
    · have hlt := pk_lt hs (by decide +kernel)
      obtain ⟨m, rfl⟩ : ∃ j, m = j + 1 := ⟨m - 1, by omega⟩
      refine ⟨_, fun _ _ h => h, ?_⟩
      walk_at "go"
      have hR3 := hR2.step (m := n1 + 1) (v := (n1 : Int) + 1) (by omega)
      have eN : moreR "and" (atomR l) l.toks (m + 1) acc n1 = match atomR l (n1 + 1) with
          | .error e => .error e
          | .ok (a, m') => moreR "and" (atomR l) l.toks m (acc ++ [a]) m' := by
        conv => lhs; unfold moreR
        rw [if_pos hs]
        cases atomR l (n1 + 1) with
        | error e => rfl
        | ok x => cases x; rfl
      rw [eN] at hmo
      have npr : p ≠ a.r := fun z => by rw [z, h21] at hp2; cases hp2
      rcases e1 : atomR l (n1 + 1) with e | ⟨x1, m1⟩
      · rw [e1] at hmo
        dsimp only at hmo
        refine ⟨a, l, n1 + 1, rfl, hR3, hl.1, fun e' he d H3 s3 hd => ?_, (fun x m hx => by rw [e1] at hx; cases hx)⟩
        rw [e1] at he
        cases he
        exact kE e hmo.symm d H3 ((s2.put (by simp)).trans s3) hd
      · rw [e1] at hmo
        dsimp only at hmo
        refine ⟨a, l, n1 + 1, rfl, hR3, hl.1, (fun x hx => by rw [e1] at hx; cases hx), fun x m hx t1 H3 s3 hR4 ht1 hat1 => ?_⟩
        rw [e1] at hx
        cases hx
        have hp3 : H3 p = some (.lst (as.map V.ref)) := s3.get1 npr (by rw [upd_ne npr]; exact hp2)
        have hlen := Paired.length hpa
        have hTl := hl.2
        have hge := atomR_ge e1
        have s4 := (s2.put (o := .ins (He.ga K "Reader") a.dx (putF "at" (.int ((n1 : Int) + 1)) (rdFs a n1))) (by simp)).trans s3
        walk_at "go"
        refine ⟨m, by omega, m1, acc ++ [x1], as ++ [t1], rfl, s4.mut hp0, hR4.mut hR hp0, by rw [upd_same, List.map_append]; rfl, paired_snoc (Paired.mapP hpa fun t x z => AtomAt.mv z (((Mv.sx ((Sx.refl H2).put (by simp)) h21).trans (Mv.sx s3 hR3.1)).trans (Mv.put hp3 fun z => z.2 rfl)))
          (AtomAt.mv hat1 ((Mv.weak fun b hb fb => ?_).trans (Mv.put hp3 fun z => z.2 rfl))), by omega, by rw [List.length_append, List.length_singleton]; omega, by omega, hmo⟩
        exact ⟨hR3.fr (s2.put (by simp)) fb, fun z => by rw [z, upd_ne npr, hp2] at fb; cases fb⟩
    · have e2 : moreR "and" (atomR l) l.toks m acc n1 = .ok (acc, n1) := by
        cases m with
        | zero => rfl
        | succ m => unfold moreR; rw [if_neg hs]
      rw [← hmo, e2] at kQ
      walk_at "go"
      exact kQ acc n1 rfl p H2 s2 hR2 hp0 ⟨hp0, as, hp2, Paired.mapP hpa fun t x z => AtomAt.mv z (Mv.weak fun _ _ f => f.1)⟩
end
section
variable {P : Program} {w : World} {K : PySem.W.Frag} {mg : Str → Option Value} {base : Heap}
theorem ok_Reader_read_condition {f : Addr} {fd : FuncData} (F : FnP K "read_condition" "Reader.read_condition" s_Reader_read_condition f fd) (T : Txt K mg) (N_Reader_peek : MtC P w K mg base 1 (He.ga K "Reader") "peek" ["self"] (sp_Reader_peek K)) (N_Reader_read_part : MtC P w K mg base 5 (He.ga K "Reader") "read_part" ["self"] (sp_Reader_read_part K))  : FnOk P w K mg base (L2.CX P w) 6 f fd ["self"] (sp_Reader_read_condition K) := by
  refine F.ok sc_Reader_read_condition (fun vs H Q E h => ?_) (fun cdv A outer s H vs Q E hr h => ?_)
  · obtain ⟨a, l, n, rfl, _⟩ := h
    rfl
  · have nd := sc_Reader_read_condition.nd
    have tk := takes_of (E := E) (X := (cxOf (L2.CX P w) P w K mg base ["self", "parts"] "Reader.read_condition" (defScope s_Reader_read_condition) f cdv A outer s H E)) rfl rfl rfl rfl
    have po : PassesOwn (model P w) (cxOf (L2.CX P w) P w K mg base ["self", "parts"] "Reader.read_condition" (defScope s_Reader_read_condition) f cdv A outer s H E).A (cxOf (L2.CX P w) P w K mg base ["self", "parts"] "Reader.read_condition" (defScope s_Reader_read_condition) f cdv A outer s H E).env (cxOf (L2.CX P w) P w K mg base ["self", "parts"] "Reader.read_condition" (defScope s_Reader_read_condition) f cdv A outer s H E).xe := passes_of (X := (cxOf (L2.CX P w) P w K mg base ["self", "parts"] "Reader.read_condition" (defScope s_Reader_read_condition) f cdv A outer s H E)) rfl
    have cR := T.c_Reader
    have a1 := T.a_Reader_tokens
    have a2 := T.a_Reader_names
    have a3 := T.a_Reader_handles
    have a4 := T.a_Reader_requests
    have a5 := T.a_Reader_at
    
    obtain ⟨a, l, n, rfl, hR, hl, kE, kQ⟩ := h
    have h1 := hR.1
    refine ⟨_, (pss_cons (q_set 1 nd (pe_lst (pa_cons (q_meth0 N_Reader_read_part tk (hr.mono (by decide)) (pv 0)) pa_nil))) (pss_cons (ps_while po (pt_cmpR (op_dEq K hr.units) (q_meth0 N_Reader_peek tk (hr.mono (by decide)) (pv 0)) pe_str (nomark _)) (pss_cons (q_afld K (pv 0) pe_int in_add) (pss_one (ps_expr (q_bm K PySem.F.plainAttrs_list PySem.F.slot_list_append PySem.F.type_list_append m_append (pv 1) (pa_cons (q_meth0 N_Reader_read_part tk (hr.mono (by decide)) (pv 0)) pa_nil)))))) (pss_one (ps_ret (pv 1))))), ?_⟩
    refine g_start (σ' := some _ :: none :: []) rfl ?_
    walk_at "go"
    have eM : condR l n = match partR l n with
      | .error e => .error e
      | .ok (x, m) => moreR "or" (partR l) l.toks (l.toks.length + 1) [x] m := by
      unfold condR manyR
      cases partR l n with
      | error e => rfl
      | ok x => cases x; rfl
    rcases e0 : partR l n with e | ⟨x0, m0⟩
    · rw [e0] at eM
      refine ⟨a, l, n, rfl, hR, hl, fun x hx => ?_, fun x m hx => ?_⟩
      · rw [e0] at hx
        cases hx
        exact kE e eM
      · rw [e0] at hx
        cases hx
    rw [e0] at eM
    dsimp only at eM
    refine ⟨a, l, n, rfl, hR, hl, (fun x hx => by rw [e0] at hx; cases hx), fun x m hx t0 H1 s1 hR1 ht0 hat => ?_⟩
    rw [e0] at hx
    cases hx
    walk_at "go"
    refine al fun p hp => ?_
    have hp0 := hR1.fr s1 hp
    walk_at "go"
    rw [eM] at kE kQ
    clear eM
    refine ⟨fun m σ' H' => ∃ (n1 : Nat) (acc : List _) (as : List Addr), σ' = [some (.ref a.r), some (.ref p)] ∧ Sx [a.r] H H' ∧ RdAt K H' a l n1 ∧ H' p = some (.lst (as.map V.ref)) ∧ Paired (PartAt (fun a => H a = none ∧ a ≠ p) H') as acc ∧ n ≤ n1 ∧ acc.length ≤ n1 + 1 ∧ l.toks.length < n1 + m ∧ moreR "or" (partR l) l.toks m acc n1 = moreR "or" (partR l) l.toks (l.toks.length + 1) [x0] m0,
      ⟨l.toks.length + 1, m0, [x0], [t0], rfl, s1.new hp, hR1.same ((Same.refl H1).new hp), upd_same, .cons (PartAt.mv hat ((Mv.weak fun b hb fb => ⟨fb, fun z => hb (z ▸ hp)⟩).trans (Mv.same ((Same.refl H1).new hp)))) .nil, partR_ge e0, by show 1 ≤ m0 + 1; omega, by omega, rfl⟩, ?_⟩
    rintro m σ' H2 ⟨n1, acc, as, rfl, s2, hR2, hp2, hpa, hn1, hac, hm, hmo⟩
    have h21 := hR2.1
    walk_at "go"
    refine ⟨a, l, n1, rfl, hR2, ?_⟩
    walk_at "go"
    refine g_iteD (fun hs => ?_) (fun hs => ?_)
    · have hlt := pk_lt hs (by decide +kernel)
      obtain ⟨m, rfl⟩ : ∃ j, m = j + 1 := ⟨m - 1, by omega⟩
      refine ⟨_, fun _ _ h => h, ?_⟩
      walk_at "go"
      have hR3 := hR2.step (m := n1 + 1) (v := (n1 : Int) + 1) (by omega)
      have eN : moreR "or" (partR l) l.toks (m + 1) acc n1 = match partR l (n1 + 1) with
          | .error e => .error e
          | .ok (a, m') => moreR "or" (partR l) l.toks m (acc ++ [a]) m' := by
        conv => lhs; unfold moreR
        rw [if_pos hs]
        cases partR l (n1 + 1) with
        | error e => rfl
        | ok x => cases x; rfl
      rw [eN] at hmo
      have npr : p ≠ a.r := fun z => by rw [z, h21] at hp2; cases hp2
      rcases e1 : partR l (n1 + 1) with e | ⟨x1, m1⟩
      · rw [e1] at hmo
        dsimp only at hmo
        refine ⟨a, l, n1 + 1, rfl, hR3, hl, fun e' he d H3 s3 hd => ?_, (fun x m hx => by rw [e1] at hx; cases hx)⟩
        rw [e1] at he
        cases he
        exact kE e hmo.symm d H3 ((s2.put (by simp)).trans s3) hd
      · rw [e1] at hmo
        dsimp only at hmo
        refine ⟨a, l, n1 + 1, rfl, hR3, hl, (fun x hx => by rw [e1] at hx; cases hx), fun x m hx t1 H3 s3 hR4 ht1 hat1 => ?_⟩
        rw [e1] at hx
        cases hx
        have hp3 : H3 p = some (.lst (as.map V.ref)) := s3.get1 npr (by rw [upd_ne npr]; exact hp2)
        have hlen := Paired.length hpa
        have hTl := hl.2
        have hge := partR_ge e1
        have s4 := (s2.put (o := .ins (He.ga K "Reader") a.dx (putF "at" (.int ((n1 : Int) + 1)) (rdFs a n1))) (by simp)).trans s3
        walk_at "go"
        refine ⟨m, by omega, m1, acc ++ [x1], as ++ [t1], rfl, s4.mut hp0, hR4.mut hR hp0, by rw [upd_same, List.map_append]; rfl, paired_snoc (Paired.mapP hpa fun t x z => PartAt.mv z (((Mv.sx ((Sx.refl H2).put (by simp)) h21).trans (Mv.sx s3 hR3.1)).trans (Mv.put hp3 fun z => z.2 rfl)))
          (PartAt.mv hat1 ((Mv.weak fun b hb fb => ?_).trans (Mv.put hp3 fun z => z.2 rfl))), by omega, by rw [List.length_append, List.length_singleton]; omega, by omega, hmo⟩
        exact ⟨hR3.fr (s2.put (by simp)) fb, fun z => by rw [z, upd_ne npr, hp2] at fb; cases fb⟩
    · have e2 : moreR "or" (partR l) l.toks m acc n1 = .ok (acc, n1) := by
        cases m with
        | zero => rfl
        | succ m => unfold moreR; rw [if_neg hs]
      rw [← hmo, e2] at kQ
      walk_at "go"
      exact kQ acc n1 rfl p H2 s2 hR2 hp0 ⟨hp0, as, hp2, Paired.mapP hpa fun t x z => PartAt.mv z (Mv.weak fun _ _ f => f.1)⟩
end
section
variable {P : Program} {w : World} {K : PySem.W.Frag} {mg : Str → Option Value} {base : Heap}
theorem ok_Reader___init__ {f : Addr} {fd : FuncData} (F : FnP K "__init__" "Reader.__init__" s_Reader___init__ f fd) (T : Txt K mg)   : FnOk P w K mg base (L2.CX P w) 1 f fd ["self", "tokens", "names", "handles", "requests"] (sp_Reader___init__ K) := by
  refine F.ok sc_Reader___init__ (fun vs H Q E h => ?_) (fun cdv A outer s H vs Q E hr h => ?_)
  · obtain ⟨x, dx, p, q, h, k, l, rfl, _⟩ := h
    rfl
  · have nd := sc_Reader___init__.nd
    have tk := takes_of (E := E) (X := (cxOf (L2.CX P w) P w K mg base ["self", "tokens", "names", "handles", "requests"] "Reader.__init__" (defScope s_Reader___init__) f cdv A outer s H E)) rfl rfl rfl rfl
    have po : PassesOwn (model P w) (cxOf (L2.CX P w) P w K mg base ["self", "tokens", "names", "handles", "requests"] "Reader.__init__" (defScope s_Reader___init__) f cdv A outer s H E).A (cxOf (L2.CX P w) P w K mg base ["self", "tokens", "names", "handles", "requests"] "Reader.__init__" (defScope s_Reader___init__) f cdv A outer s H E).env (cxOf (L2.CX P w) P w K mg base ["self", "tokens", "names", "handles", "requests"] "Reader.__init__" (defScope s_Reader___init__) f cdv A outer s H E).xe := passes_of (X := (cxOf (L2.CX P w) P w K mg base ["self", "tokens", "names", "handles", "requests"] "Reader.__init__" (defScope s_Reader___init__) f cdv A outer s H E)) rfl
    have cR := T.c_Reader
    have a1 := T.a_Reader_tokens
    have a2 := T.a_Reader_names
    have a3 := T.a_Reader_handles
    have a4 := T.a_Reader_requests
    have a5 := T.a_Reader_at
    
    obtain ⟨x, dx, p, q, h, k, l, rfl, hx, hp, hq, hh, hk, kQ⟩ := h
    have npx : p ≠ x := fun z => by rw [z, hx] at hp; cases hp
    refine ⟨_, (pss_cons (q_sfld K (pv 0) (pv 1)) (pss_cons (q_sfld K (pv 0) (pe_callTy (cl_list K) (by rfl) T.n_list bt_list (pa_cons (pv 2) pa_nil))) (pss_cons (q_sfld K (pv 0) (pe_callTy (cl_list K) (by rfl) T.n_list bt_list (pa_cons (pv 3) pa_nil))) (pss_cons (q_sfld K (pv 0) (pe_callTy (cl_list K) (by rfl) T.n_list bt_list (pa_cons (pv 4) pa_nil))) (pss_one (q_sfld K (pv 0) pe_int)))))), ?_⟩
    refine g_start (σ' := some _ :: some _ :: some _ :: some _ :: some _ :: []) rfl ?_
    walk_at "go"
    refine g_listL (Or.inl (sqL_sx hq ((Sx.refl H).put (by simp)) hx)) fun q1 hq1 => ?_
    have nq1 : x ≠ q1 := ne_of_none upd_same hq1
    walk_at "go"
    have sA : Sx [x] H (upd (upd (upd H x (.ins (He.ga K "Reader") dx (putF "tokens" (.ref p) []))) q1 (.lst (l.names.map V.str))) x (.ins (He.ga K "Reader") dx (putF "names" (.ref q1) (putF "tokens" (.ref p) [])))) := (((Sx.refl H).put (by simp)).new hq1).put (by simp)
    have hxA : upd (upd (upd H x (.ins (He.ga K "Reader") dx (putF "tokens" (.ref p) []))) q1 (.lst (l.names.map V.str))) x (.ins (He.ga K "Reader") dx (putF "names" (.ref q1) (putF "tokens" (.ref p) []))) x = some (.ins (He.ga K "Reader") dx [("tokens", .ref p), ("names", .ref q1)]) := by
      rw [upd_same, putF_nil, putF_ne (by decide +kernel), putF_nil]
    have hqA : upd (upd (upd H x (.ins (He.ga K "Reader") dx (putF "tokens" (.ref p) []))) q1 (.lst (l.names.map V.str))) x (.ins (He.ga K "Reader") dx (putF "names" (.ref q1) (putF "tokens" (.ref p) []))) q1 = some (.lst (l.names.map V.str)) := by
      rw [upd_ne nq1.symm, upd_same]
    generalize upd (upd (upd H x (.ins (He.ga K "Reader") dx (putF "tokens" (.ref p) []))) q1 (.lst (l.names.map V.str))) x (.ins (He.ga K "Reader") dx (putF "names" (.ref q1) (putF "tokens" (.ref p) []))) = HA at sA hxA hqA ⊢
    refine g_listL (Or.inl (sqL_sx hh sA hx)) fun h1 hh1 => ?_
    have nh1 : x ≠ h1 := ne_of_none hxA hh1
    walk_at "go"
    have sB : Sx [x] H (upd (upd HA h1 (.lst (l.hs.map V.str))) x (.ins (He.ga K "Reader") dx (putF "handles" (.ref h1) [("tokens", .ref p), ("names", .ref q1)]))) := (sA.new hh1).put (by simp)
    have hxB : upd (upd HA h1 (.lst (l.hs.map V.str))) x (.ins (He.ga K "Reader") dx (putF "handles" (.ref h1) [("tokens", .ref p), ("names", .ref q1)])) x = some (.ins (He.ga K "Reader") dx [("tokens", .ref p), ("names", .ref q1), ("handles", .ref h1)]) := by
      rw [upd_same, putF_ne (by decide +kernel), putF_ne (by decide +kernel), putF_nil]
    have hqB : upd (upd HA h1 (.lst (l.hs.map V.str))) x (.ins (He.ga K "Reader") dx (putF "handles" (.ref h1) [("tokens", .ref p), ("names", .ref q1)])) q1 = some (.lst (l.names.map V.str)) := by
      rw [upd_ne nq1.symm, upd_ne (ne_of_none hqA hh1)]; exact hqA
    have hhB : upd (upd HA h1 (.lst (l.hs.map V.str))) x (.ins (He.ga K "Reader") dx (putF "handles" (.ref h1) [("tokens", .ref p), ("names", .ref q1)])) h1 = some (.lst (l.hs.map V.str)) := by
      rw [upd_ne nh1.symm, upd_same]
    generalize upd (upd HA h1 (.lst (l.hs.map V.str))) x (.ins (He.ga K "Reader") dx (putF "handles" (.ref h1) [("tokens", .ref p), ("names", .ref q1)])) = HB at sB hxB hqB hhB ⊢
    refine g_listL (Or.inl (sqL_sx hk sB hx)) fun k1 hk1 => ?_
    have nk1 : x ≠ k1 := ne_of_none hxB hk1
    walk_at "go"
    refine kQ ⟨x, dx, p, q1, h1, k1⟩ _ rfl rfl (((sB.new hk1).put (by simp)).put (by simp)) ⟨?_, ?_, ?_, ?_, ?_⟩
    · show upd _ x _ x = _
      rw [upd_same]
      repeat (first | rw [putF_nil] | rw [putF_ne (by decide +kernel)])
      rfl
    · exact (((sB.new hk1).put (by simp)).put (by simp)) p _ (by simpa using npx) hp
    · show upd _ x _ q1 = _
      rw [upd_ne nq1.symm, upd_ne nq1.symm, upd_ne (ne_of_none hqB hk1)]; exact hqB
    · show upd _ x _ h1 = _
      rw [upd_ne nh1.symm, upd_ne nh1.symm, upd_ne (ne_of_none hhB hk1)]; exact hhB
    · show upd _ x _ k1 = _
      rw [upd_ne nk1.symm, upd_ne nk1.symm, upd_same]
end
section
variable {P : Program} {w : World} {K : PySem.W.Frag} {mg : Str → Option Value} {base : Heap}
theorem ok_Condition___init__ {f : Addr} {fd : FuncData} (F : FnP K "__init__" "Condition.__init__" s_Condition___init__ f fd) (T : Txt K mg) (M_Reader : MkC P w K mg base 1 "Reader" (He.ga K "Reader") ["self", "tokens", "names", "handles", "requests"] (sp_Reader___init__ K)) (N_Reader_read_condition : MtC P w K mg base 6 (He.ga K "Reader") "read_condition" ["self"] (sp_Reader_read_condition K)) (X_BadCondition : XC P w K mg base 1 "BadCondition" "at" (He.ga K "BadCondition"))  : FnOk P w K mg base (L2.CX P w) 7 f fd ["self", "text", "names", "handles", "requests"] (sp_Condition___init__ K) := by
  refine F.ok sc_Condition___init__ (fun vs H Q E h => ?_) (fun cdv A outer s H vs Q E hr h => ?_)
  · obtain ⟨x, dx, q, h, k, text, l, rfl, _⟩ := h
    rfl
  · have nd := sc_Condition___init__.nd
    have tk := takes_of (E := E) (X := (cxOf (L2.CX P w) P w K mg base ["self", "text", "names", "handles", "requests", "tokens", "reader"] "Condition.__init__" (defScope s_Condition___init__) f cdv A outer s H E)) rfl rfl rfl rfl
    have po : PassesOwn (model P w) (cxOf (L2.CX P w) P w K mg base ["self", "text", "names", "handles", "requests", "tokens", "reader"] "Condition.__init__" (defScope s_Condition___init__) f cdv A outer s H E).A (cxOf (L2.CX P w) P w K mg base ["self", "text", "names", "handles", "requests", "tokens", "reader"] "Condition.__init__" (defScope s_Condition___init__) f cdv A outer s H E).env (cxOf (L2.CX P w) P w K mg base ["self", "text", "names", "handles", "requests", "tokens", "reader"] "Condition.__init__" (defScope s_Condition___init__) f cdv A outer s H E).xe := passes_of (X := (cxOf (L2.CX P w) P w K mg base ["self", "text", "names", "handles", "requests", "tokens", "reader"] "Condition.__init__" (defScope s_Condition___init__) f cdv A outer s H E)) rfl
    have cR := T.c_Reader
    have a1 := T.a_Reader_tokens
    have a2 := T.a_Reader_names
    have a3 := T.a_Reader_handles
    have a4 := T.a_Reader_requests
    have a5 := T.a_Reader_at
    
    have cC := T.c_Condition
    have aP := T.a_Condition_parts
    have aS := T.a_Condition_shown
    obtain ⟨x, dx, q, h, k, text, l, rfl, hx, hq, hh, hk, hw, hl, kE, kQ⟩ := h
    have hww := StrLaws.words_weight text
    have hTk : TkL l.toks := by
      rw [hw]
      exact ⟨fun t ht => Nat.le_trans (lens_words ht) hl, Nat.le_trans words_many (by omega)⟩
    refine ⟨_, (pss_cons (q_set 5 nd (q_bm0 K PySem.F.plainAttrs_str PySem.F.slot_str_split PySem.F.type_str_split m_words (pv 1))) (pss_cons (q_set 6 nd (q_make M_Reader tk (hr.mono (by decide)) (pa_cons (pv 5) (pa_cons (pv 2) (pa_cons (pv 3) (pa_cons (pv 4) pa_nil)))))) (pss_cons (q_sfld K (pv 0) (q_meth0 N_Reader_read_condition tk (hr.mono (by decide)) (pv 6))) (pss_cons (ps_if (pt_cmpR op_dLt (q_fld K (pv 6)) (pe_callB (cl_len K) (by rfl) T.n_len bt_len (pa_cons (pv 5) pa_nil)) (nomark _)) (pss_one (q_raise X_BadCondition tk (hr.mono (by decide)) (pa_cons (q_fld K (pv 6)) pa_nil))) pss_nil) (pss_one (q_sfld K (pv 0) (q_bm K PySem.F.plainAttrs_str PySem.F.slot_str_join PySem.F.type_str_join (m_join K) pe_str (pa_cons (pv 5) pa_nil)))))))), ?_⟩
    refine g_start (σ' := some _ :: some _ :: some _ :: some _ :: some _ :: none :: none :: []) rfl ?_
    walk_at "go"
    intro tp htp
    walk_at "go"
    intro r dr hr0 hd0 hdr
    have hrn : H r = none := ((Same.refl H).new htp).free hr0
    have s1 : Same H (upd (upd (upd H tp (.lst ((Txt.words text).map V.str))) dr (.own r)) r (.ins (He.ga K "Reader") dr [])) := (((Same.refl H).new htp).new hd0).mut hrn
    have nrt : r ≠ tp := (ne_of_none upd_same hr0).symm
    have ndt : dr ≠ tp := (ne_of_none upd_same hd0).symm
    refine ⟨r, dr, tp, q, h, k, l, rfl, upd_same, by rw [upd_ne nrt.symm, upd_ne ndt.symm, upd_same, hw], sqL_same hq s1, sqL_same hh s1, sqL_same hk s1, fun a H1 er ep s2 hR => ⟨rfl, ?_⟩⟩
    subst er ep
    have s3 : Same H H1 := Sx.drop1 s1 hrn s2
    have hr1 := hR.1
    walk_at "go"
    refine ⟨a, l, 0, rfl, hR, hTk, fun e he d H2 s4 hd => kE e (by unfold initC; rw [he]) d H2 (Sx.of (Sx.drop1 s3 hrn s4)) hd, fun ps m hps t H2 s4 hR2 ht0 hat => ?_⟩
    have s5 : Same H H2 := Sx.drop1 s3 hrn s4
    have hx2 := s5 _ _ hx
    have hr2 := hR2.1
    have hp2 := hR2.2.1
    have nxr : x ≠ a.r := ne_of_none hx hrn
    have nxp : x ≠ a.p := ne_of_none hx htp
    walk_at "go"
    skip
    walk_at "go"
    refine g_iteD (fun hlt => ?_) (fun hlt => ?_)
    · walk_at "go"
      intro d hd
      exact kE m (by unfold initC; rw [hps]; dsimp only; rw [if_pos (by simpa using hlt)]) d _ (((Sx.of s5).put (by simp)).new hd) upd_same
    · walk_at "go"
      refine g_join (ys := l.toks) (Or.inl (SqL.of (by walk_at "hp"))) ?_ ?_
      · rw [hw, show ((" " : Str)).length = 1 from rfl]
        omega
      walk_at "go"
      refine kQ ps (by unfold initC; rw [hps]; dsimp only; rw [if_neg (by simpa using hlt)]) _ (((Sx.of s5).put (by simp)).put (by simp)) ⟨dx, t, ?_, PartsAt.mv hat (((Mv.weak fun b _ hb => s3.free hb).trans (Mv.sx (r := x) ((Sx.refl H2).put (by simp)) hx2)).trans (Mv.sx (r := x) ((Sx.refl _).put (by simp)) upd_same))⟩
      rw [upd_same]
      repeat (first | rw [putF_nil] | rw [putF_ne (by decide +kernel)])
end
section
variable {P : Program} {w : World} {K : PySem.W.Frag} {mg : Str → Option Value} {base : Heap}
theorem ok_compares {f : Addr} {fd : FuncData} (F : FnP K "compares" "compares" s_compares f fd) (T : Txt K mg)   : FnOk P w K mg base (L2.CX P w) 1 f fd ["sign", "left", "right"] (sp_compares K) := by
  refine F.ok sc_compares (fun vs H Q E h => ?_) (fun cdv A outer s H vs Q E hr h => ?_)
  · obtain ⟨s, l, r, rfl, _⟩ := h
    rfl
  · have nd := sc_compares.nd
    have tk := takes_of (E := E) (X := (cxOf (L2.CX P w) P w K mg base ["sign", "left", "right"] "compares" (defScope s_compares) f cdv A outer s H E)) rfl rfl rfl rfl
    have po : PassesOwn (model P w) (cxOf (L2.CX P w) P w K mg base ["sign", "left", "right"] "compares" (defScope s_compares) f cdv A outer s H E).A (cxOf (L2.CX P w) P w K mg base ["sign", "left", "right"] "compares" (defScope s_compares) f cdv A outer s H E).env (cxOf (L2.CX P w) P w K mg base ["sign", "left", "right"] "compares" (defScope s_compares) f cdv A outer s H E).xe := passes_of (X := (cxOf (L2.CX P w) P w K mg base ["sign", "left", "right"] "compares" (defScope s_compares) f cdv A outer s H E)) rfl
    obtain ⟨s, l, r, rfl, k⟩ := h
    unfold cmpB at k
    refine ⟨_, (pss_cons (ps_match (pv 0) (pmc_cons pp_val (pss_one (ps_ret (pe_cmpR (op_dEq K hr.units) (pv 1) (pv 2) (nomark _)))) (pmc_cons pp_val (pss_one (ps_ret (pe_cmpR (op_dNe K hr.units) (pv 1) (pv 2) (nomark _)))) (pmc_cons pp_val (pss_one (ps_ret (pe_cmpR op_dLt (pv 1) (pv 2) (nomark _)))) (pmc_cons pp_val (pss_one (ps_ret (pe_cmpR op_dLe (pv 1) (pv 2) (nomark _)))) (pmc_cons pp_val (pss_one (ps_ret (pe_cmpR op_dGt (pv 1) (pv 2) (nomark _)))) pmc_nil)))))) (pss_one (ps_ret (pe_cmpR op_dGe (pv 1) (pv 2) (nomark _))))), ?_⟩
    refine g_start (σ' := some _ :: some _ :: some _ :: []) rfl ?_
    walk_at "go"
    refine g_iteD (fun e1 => ?_) (fun e1 => ?_)
    · rw [if_pos (by simpa using e1)] at k
      walk_at "go"
      exact k
    rw [if_neg (by simpa using e1)] at k
    walk_at "go"
    refine g_iteD (fun e1 => ?_) (fun e1 => ?_)
    · rw [if_pos (by simpa using e1)] at k
      walk_at "go"
      exact k
    rw [if_neg (by simpa using e1)] at k
    walk_at "go"
    refine g_iteD (fun e1 => ?_) (fun e1 => ?_)
    · rw [if_pos (by simpa using e1)] at k
      walk_at "go"
      exact k
    rw [if_neg (by simpa using e1)] at k
    walk_at "go"
    refine g_iteD (fun e1 => ?_) (fun e1 => ?_)
    · rw [if_pos (by simpa using e1)] at k
      walk_at "go"
      exact k
    rw [if_neg (by simpa using e1)] at k
    walk_at "go"
    refine g_iteD (fun e1 => ?_) (fun e1 => ?_)
    · rw [if_pos (by simpa using e1)] at k
      walk_at "go"
      exact k
    rw [if_neg (by simpa using e1)] at k
    walk_at "go"
    exact k
end
section
variable {P : Program} {w : World} {K : PySem.W.Frag} {mg : Str → Option Value} {base : Heap}
theorem ok_sum_of {f : Addr} {fd : FuncData} (F : FnP K "sum_of" "sum_of" s_sum_of f fd) (T : Txt K mg)   : FnOk P w K mg base (L2.CX P w) 1 f fd ["terms", "values"] (sp_sum_of K) := by
  refine F.ok sc_sum_of (fun vs H Q E h => ?_) (fun cdv A outer s H vs Q E hr h => ?_)
  · obtain ⟨p, d, ts, kvs, val, rfl, _⟩ := h
    rfl
  · have nd := sc_sum_of.nd
    have tk := takes_of (E := E) (X := (cxOf (L2.CX P w) P w K mg base ["terms", "values", "total", "factor", "term"] "sum_of" (defScope s_sum_of) f cdv A outer s H E)) rfl rfl rfl rfl
    have po : PassesOwn (model P w) (cxOf (L2.CX P w) P w K mg base ["terms", "values", "total", "factor", "term"] "sum_of" (defScope s_sum_of) f cdv A outer s H E).A (cxOf (L2.CX P w) P w K mg base ["terms", "values", "total", "factor", "term"] "sum_of" (defScope s_sum_of) f cdv A outer s H E).env (cxOf (L2.CX P w) P w K mg base ["terms", "values", "total", "factor", "term"] "sum_of" (defScope s_sum_of) f cdv A outer s H E).xe := passes_of (X := (cxOf (L2.CX P w) P w K mg base ["terms", "values", "total", "factor", "term"] "sum_of" (defScope s_sum_of) f cdv A outer s H E)) rfl
    obtain ⟨p, d, ts, kvs, val, rfl, ⟨as, hp, hpa⟩, hd, hv, k⟩ := h
    refine ⟨_, (pss_cons (q_set 2 nd pe_int) (pss_cons (ps_for po rfl (q_list K (pv 0)) (q_gtup K 2 (pgs_cons (q_name 3 nd) (pgs_cons (q_name 4 nd) pgs_nil))) (pss_one (ps_if (q_truth K (pe_callB (cl_isinstance K) (by rfl) T.n_isinstance bt_isinstance (pa_cons (pv 4) (pa_cons (q_bltn T.n_str bt_str) pa_nil)))) (pss_one (q_aug 2 nd (pe_op op_dMul (pv 3) (pe_dget (units1 hr.units) (pv 1) (pv 4) (fun _ _ => rfl))) ip_add)) (pss_one (q_aug 2 nd (pe_op op_dMul (pv 3) (pv 4)) ip_add))))) (pss_one (ps_ret (pv 2))))), ?_⟩
    refine g_start (σ' := some _ :: some _ :: none :: none :: none :: []) rfl ?_
    walk_at "go"
    refine lp_it (walk_list (xs := as.map V.ref)) (fun i σ' H' => ∃ (u v : Option V), σ' = [some (.ref p), some (.ref d), some (.int (sumV val (ts.take i))), u, v] ∧ H' = H) ⟨none, none, rfl, rfl⟩ (fun i σ' H' _ h => by
      obtain ⟨u, v, _, rfl⟩ := h
      exact SqL.of hp) ?_ ?_
    · rintro i x σ' H1 H2 hi ⟨u, v, rfl, rfl⟩ ⟨rfl, hx⟩
      obtain ⟨a, ha, rfl⟩ : ∃ a, as[i]? = some a ∧ x = .ref a := by
        rw [List.getElem?_map] at hx
        cases e : as[i]? with
        | none => rw [e] at hx; cases hx
        | some a => rw [e] at hx; cases hx; exact ⟨a, rfl, rfl⟩
      obtain ⟨⟨f, t⟩, ht, hat⟩ := paired_at hpa ha
      have hat : H2 a = some (.tup [.int f, t.v]) := hat
      obtain ⟨hf, hs⟩ := hv _ (List.mem_of_getElem? ht)
      have hnext : sumV val (ts.take (i + 1)) = sumV val (ts.take i) + f * tmV val t := by
        unfold sumV
        rw [List.take_succ, ht]
        simp
      rw [hnext]
      have hm : ∀ j : Int, CMul f j ∨ CMulW f j := fun j => .inl (.inl (by rcases hf with h | h <;> (have h : f = _ := h; omega)))
      cases t with
      | num n =>
        have hat : H2 a = some (.tup [.int f, .int n]) := hat
        walk_at "go"
        refine g_isi (b := false) (.ty _) (.base (.int _)) (by rfl) ?_
        walk_at "go"
        exact ⟨_, _, rfl, rfl⟩
      | nam z =>
        have hz := hs z rfl
        have hat : H2 a = some (.tup [.int f, .str z]) := hat
        walk_at "go"
        refine g_isi (b := true) (.ty _) (.base (.str _)) (by rfl) ?_
        walk_at "go"
        exact ⟨_, _, rfl, rfl⟩
    · rintro σ' H1 ⟨u, v, rfl, rfl⟩
      walk_at "go"
      rw [List.length_map, List.take_of_length_le (by rw [← Paired.length hpa]; exact Nat.le_refl _)]
      exact k
end
section
variable {P : Program} {w : World} {K : PySem.W.Frag} {mg : Str → Option Value} {base : Heap}
theorem ok_atom_holds {f : Addr} {fd : FuncData} (F : FnP K "atom_holds" "atom_holds" s_atom_holds f fd) (T : Txt K mg) (C_compares : Cal P w K mg base 1 "compares" ["sign", "left", "right"] (sp_compares K)) (C_sum_of : Cal P w K mg base 1 "sum_of" ["terms", "values"] (sp_sum_of K))  : FnOk P w K mg base (L2.CX P w) 2 f fd ["atom", "values", "handles", "opened"] (sp_atom_holds K) := by
  refine F.ok sc_atom_holds (fun vs H Q E h => ?_) (fun cdv A outer s H vs Q E hr h => ?_)
  · obtain ⟨F, t, d, e, o, a, kvs, hvs, q, rfl, _⟩ := h
    rfl
  · have nd := sc_atom_holds.nd
    have tk := takes_of (E := E) (X := (cxOf (L2.CX P w) P w K mg base ["atom", "values", "handles", "opened", "wanted", "word", "left", "right", "found"] "atom_holds" (defScope s_atom_holds) f cdv A outer s H E)) rfl rfl rfl rfl
    have po : PassesOwn (model P w) (cxOf (L2.CX P w) P w K mg base ["atom", "values", "handles", "opened", "wanted", "word", "left", "right", "found"] "atom_holds" (defScope s_atom_holds) f cdv A outer s H E).A (cxOf (L2.CX P w) P w K mg base ["atom", "values", "handles", "opened", "wanted", "word", "left", "right", "found"] "atom_holds" (defScope s_atom_holds) f cdv A outer s H E).env (cxOf (L2.CX P w) P w K mg base ["atom", "values", "handles", "opened", "wanted", "word", "left", "right", "found"] "atom_holds" (defScope s_atom_holds) f cdv A outer s H E).xe := passes_of (X := (cxOf (L2.CX P w) P w K mg base ["atom", "values", "handles", "opened", "wanted", "word", "left", "right", "found"] "atom_holds" (defScope s_atom_holds) f cdv A outer s H E)) rfl
    obtain ⟨F, t, d, e, o, a, kvs, hvs, q, rfl, ha, hd, he, ho, hok, k⟩ := h
    refine ⟨_, (pss_cons (ps_asg (pv 0) (q_gtup K 4 (pgs_cons (q_name 4 nd) (pgs_cons (q_name 5 nd) (pgs_cons (q_name 6 nd) (pgs_cons (q_name 7 nd) pgs_nil)))))) (pss_cons (ps_if (pt_cmpR (op_dEq K hr.units) (pv 5) pe_str (nomark _)) (pss_one (q_set 8 nd (pe_cmpR op_dIs (pe_dget (units1 hr.units) (pv 2) (pv 6) (fun _ _ => rfl)) pe_non (nomark _)))) (pss_one (ps_if (pt_cmpR (op_dEq K hr.units) (pv 5) pe_str (nomark _)) (pss_one (q_set 8 nd (q_andT K (pe_cmpR op_dIsNot (pe_dget (units1 hr.units) (pv 2) (pv 6) (fun _ _ => rfl)) pe_non (nomark _)) (pe_one (pe_cmpR (op_dNe K hr.units) (pe_dget (units1 hr.units) (pv 2) (pv 6) (fun _ _ => rfl)) pe_str (nomark _)))))) (pss_one (ps_if (pt_cmpR (op_dEq K hr.units) (pv 5) pe_str (nomark _)) (pss_one (q_set 8 nd (pe_cmpR (op_dIn K) (pv 6) (pv 3) (by rfl)))) (pss_one (q_set 8 nd (q_call C_compares tk (hr.mono (by decide)) (pa_cons (pv 5) (pa_cons (q_call C_sum_of tk (hr.mono (by decide)) (pa_cons (pv 6) (pa_cons (pv 1) pa_nil))) (pa_cons (q_call C_sum_of tk (hr.mono (by decide)) (pa_cons (pv 7) (pa_cons (pv 1) pa_nil))) pa_nil))))))))))) (pss_one (ps_ret (pe_cmpR (op_dEq K hr.units) (pv 8) (pv 4) (nomark _)))))), ?_⟩
    refine g_start (σ' := some _ :: some _ :: some _ :: some _ :: none :: none :: none :: none :: none :: []) rfl ?_
    cases a with
    | word b w x =>
      have ha : H t = some (.tup [.bl b, .str w, .str x, .int 0]) := ha
      obtain ⟨hw, hx⟩ := hok
      walk_at "go"
      refine g_iteD (fun e1 => ?_) (fun e1 => ?_)
      · subst e1
        have hx := hx (by decide +kernel)
        cases hst : q.st x with
        | none =>
          rw [hst] at hx
          have hx : valV hvs (.inr x) = some .non := hx
          walk_at "go"
          exact k_of k (by rw [av_none, hst]; simp)
        | some z =>
          rw [hst] at hx
          have hx : valV hvs (.inr x) = some (.str z) := hx
          walk_at "go"
          exact k_of k (by rw [av_none, hst]; simp)
      walk_at "go"
      refine g_iteD (fun e2 => ?_) (fun e2 => ?_)
      · subst e2
        have hx := hx (by decide +kernel)
        cases hst : q.st x with
        | none =>
          rw [hst] at hx
          have hx : valV hvs (.inr x) = some .non := hx
          walk_at "go"
          exact k_of k (by rw [av_live, hst]; simp)
        | some z =>
          rw [hst] at hx
          have hx : valV hvs (.inr x) = some (.str z) := hx
          walk_at "go"
          refine g_iteN (fun _ => ?_) (fun z => by cases z)
          walk_at "go"
          exact k_of k (by rw [av_live, hst])
      walk_at "go"
      refine g_iteD (fun e3 => ?_) (fun e3 => ?_)
      · walk_at "go"
        exact k_of k (av_open e1 e2)
      · exfalso
        simp only [List.mem_cons, List.not_mem_nil, or_false] at hw
        exact hw.elim e1 fun z => z.elim e2 e3
    | cmp b s l r =>
      obtain ⟨p1, p2, ht, _, _, h1, h2⟩ := ha
      obtain ⟨hs, hl, hr⟩ := hok
      obtain ⟨m1, m2, m3⟩ := not_kw hs
      walk_at "go"
      refine g_iteD (fun z => absurd z m1) (fun _ => ?_)
      walk_at "go"
      refine g_iteD (fun z => absurd z m2) (fun _ => ?_)
      walk_at "go"
      refine g_iteD (fun z => absurd z m3) (fun _ => ?_)
      walk_at "go"
      refine ⟨p1, d, l, kvs, q.val, rfl, h1, hd, hl, ?_⟩
      walk_at "go"
      refine ⟨p2, d, r, kvs, q.val, rfl, h2, hd, hr, ?_⟩
      walk_at "go"
      refine ⟨s, _, _, rfl, ?_⟩
      walk_at "go"
      exact k
end
section
variable {P : Program} {w : World} {K : PySem.W.Frag} {mg : Str → Option Value} {base : Heap}
theorem ok_Condition___call__ {f : Addr} {fd : FuncData} (F : FnP K "__call__" "Condition.__call__" s_Condition___call__ f fd) (T : Txt K mg) (C_atom_holds : Cal P w K mg base 2 "atom_holds" ["atom", "values", "handles", "opened"] (sp_atom_holds K))  : FnOk P w K mg base (L2.CX P w) 3 f fd ["self", "values", "handles", "opened"] (sp_Condition___call__ K) := by
  refine F.ok sc_Condition___call__ (fun vs H Q E h => ?_) (fun cdv A outer s H vs Q E hr h => ?_)
  · obtain ⟨F, x, d, e, o, ps, shown, kvs, hvs, q, rfl, _⟩ := h
    rfl
  · have nd := sc_Condition___call__.nd
    have tk := takes_of (E := E) (X := (cxOf (L2.CX P w) P w K mg base ["self", "values", "handles", "opened", "atoms", "one"] "Condition.__call__" (defScope s_Condition___call__) f cdv A outer s H E)) rfl rfl rfl rfl
    have po : PassesOwn (model P w) (cxOf (L2.CX P w) P w K mg base ["self", "values", "handles", "opened", "atoms", "one"] "Condition.__call__" (defScope s_Condition___call__) f cdv A outer s H E).A (cxOf (L2.CX P w) P w K mg base ["self", "values", "handles", "opened", "atoms", "one"] "Condition.__call__" (defScope s_Condition___call__) f cdv A outer s H E).env (cxOf (L2.CX P w) P w K mg base ["self", "values", "handles", "opened", "atoms", "one"] "Condition.__call__" (defScope s_Condition___call__) f cdv A outer s H E).xe := passes_of (X := (cxOf (L2.CX P w) P w K mg base ["self", "values", "handles", "opened", "atoms", "one"] "Condition.__call__" (defScope s_Condition___call__) f cdv A outer s H E)) rfl
    have cC := T.c_Condition
    have aP := T.a_Condition_parts
    have aS := T.a_Condition_shown
    obtain ⟨F, x, d, e, o, ps, shown, kvs, hvs, q, rfl, ⟨dx, l, hx, hF, as, hl, hpa⟩, hd, he, ho, hok, k⟩ := h
    refine ⟨_, (pss_cons (ps_for po rfl (q_list K (q_fld K (pv 0))) (q_name 4 nd) (pss_one (ps_if (q_truth K (pe_callB (cl_all K) (by rfl) T.n_all bt_all (pa_cons (pe_lc (own := [("one", 5)]) (tt := tYes) rfl nd (q_list K (pv 4)) (blkOk_by (own := [("one", 5)]) (N := ["self", "values", "handles", "opened", "atoms", "one"]) (sc := defScope s_Condition___call__) (by decide +kernel)) (fun _ _ _ _ _ => (q_name 5 nd)) (fun _ _ _ _ _ => pts_nil) (fun _ _ _ _ _ => (q_call C_atom_holds takes0 (hr.mono (by decide)) (pa_cons (pv 5) (pa_cons (pv 1) (pa_cons (pv 2) (pa_cons (pv 3) pa_nil))))))) pa_nil))) (pss_one (ps_ret pe_bl)) pss_nil))) (pss_one (ps_ret pe_bl))), ?_⟩
    refine g_start (σ' := some _ :: some _ :: some _ :: some _ :: none :: none :: []) rfl ?_
    walk_at "go"
    refine lp_it (walk_list (xs := as.map V.ref)) (fun i σ' H' => ∃ (u v : Option V), σ' = [some (.ref x), some (.ref d), some (.ref e), some (.ref o), u, v] ∧ Ed [] H H' ∧ (ps.take i).any (fun p => p.all (atomV q)) = false) ⟨none, none, rfl, Ed.refl, by simp⟩ (fun i σ' H' _ h => by
      obtain ⟨u, v, _, h, _⟩ := h
      exact SqL.of (h.get List.not_mem_nil hl)) ?_ ?_
    · rintro i y σ' H1 H2 hi ⟨u, v, rfl, e1, hany⟩ ⟨rfl, hy⟩
      obtain ⟨a, ha, rfl⟩ : ∃ a, as[i]? = some a ∧ y = .ref a := by
        rw [List.getElem?_map] at hy
        cases e : as[i]? with
        | none => rw [e] at hy; cases hy
        | some a => rw [e] at hy; cases hy; exact ⟨a, rfl, rfl⟩
      obtain ⟨p, hp, hat⟩ := paired_at hpa ha
      have hat : PartAt F _ a p := PartAt.mv hat (Mv.same e1.same')
      obtain ⟨hFa, bs, hb, hba⟩ := hat
      obtain ⟨hpl, hpok⟩ := hok _ (List.mem_of_getElem? hp)
      have hl := Paired.length hba
      walk_at "go"
      intro D hD
      refine lc_gen (by walk_at "wipe") (U := []) (W := []) (walk_list (xs := bs.map V.ref)) (by rw [List.length_map, hl, sizeLine_eq]; omega) hD Wl.nil no0 (fun i acc => acc = (p.take i).map fun a => PyData.bool (atomV q a)) (fun _ => True) (fun _ _ _ _ => trivial) trivial rfl (fun H' e => SqL.of (e.get List.not_mem_nil hb)) ?_ ?_
      · rintro j z acc H3 H4 R N hj hacc _ e2 hw ⟨rfl, hz⟩ hy hn
        obtain ⟨t, ht, rfl⟩ : ∃ t, bs[j]? = some t ∧ z = .ref t := by
          rw [List.getElem?_map] at hz
          cases e : bs[j]? with
          | none => rw [e] at hz; cases hz
          | some a => rw [e] at hz; cases hz; exact ⟨a, rfl, rfl⟩
        obtain ⟨at_, hat, hatt⟩ := paired_at hba ht
        walk_at "go"
        refine ⟨rfl, ?_⟩
        walk_at "go"
        have e3 := e1.tr e2 no0
        refine ⟨F, t, d, e, o, at_, kvs, hvs, q, rfl, hatt.mv (Mv.same e2.same'), e3.get List.not_mem_nil hd, e3.get List.not_mem_nil he, sqL_same ho e3.same', hpok _ (List.mem_of_getElem? hat), ?_⟩
        refine hy _ _ _ Ed.refl (.bl _) trivial ?_
        rw [hacc, List.take_succ, hat]
        simp
      · intro acc H3 hacc _ e2 hdf _
        rw [List.length_map, hl, List.take_of_length_le (Nat.le_refl _)] at hacc
        have hacc : acc = (p.map (atomV q)).map PyData.bool := by rw [hacc, List.map_map]; rfl
        subst hacc
        walk_at "go"
        refine g_allB hdf ?_
        have hall : (p.map (atomV q)).all id = p.all (atomV q) := by rw [List.all_map]; rfl
        rw [hall]
        have e3 := e1.tr e2 no0
        walk_at "go"
        refine g_ite (fun h => ?_) (fun h => ?_)
        · walk_at "go"
          refine k_of (k H3 e3) ?_
          unfold condV
          rw [List.any_eq_true]
          exact ⟨p, List.mem_of_getElem? hp, h⟩
        · walk_at "go"
          refine ⟨_, _, rfl, e3, ?_⟩
          rw [List.take_succ, hp, List.any_append, hany]
          simp [h]
    · rintro σ' H1 ⟨u, v, rfl, e1, hany⟩
      walk_at "go"
      refine k_of (k H1 e1) ?_
      rw [List.length_map, List.take_of_length_le (by rw [← Paired.length hpa]; exact Nat.le_refl _)] at hany
      exact hany
end
section
variable {P : Program} {w : World} {K : PySem.W.Frag} {mg : Str → Option Value} {base : Heap}
theorem ok_law_terms {f : Addr} {fd : FuncData} (F : FnP K "_law_terms" "_law_terms" s_law_terms f fd) (T : Txt K mg) (C_law_of : Cal P w K mg base 2 "_law_of" ["_law_bag", "_law_some"] (sp_law_of K)) (C_law_take : Cal P w K mg base 1 "_law_take" ["_law_bag", "_law_many"] (sp_law_take K))  : FnOk P w K mg base (L2.CX P w) 3 f fd ["_law_bag", "_law_names_here", "_law_many"] (sp_law_terms K) := by
  refine F.ok sc_law_terms (fun vs H Q E h => ?_) (fun cdv A outer s H vs Q E hr h => ?_)
  · obtain ⟨W, b, q, names, many, rfl, _⟩ := h
    rfl
  · have nd := sc_law_terms.nd
    have tk := takes_of (E := E) (X := (cxOf (L2.CX P w) P w K mg base ["_law_bag", "_law_names_here", "_law_many", "_law_terms_here", "_law_turn", "_law_thing"] "_law_terms" (defScope s_law_terms) f cdv A outer s H E)) rfl rfl rfl rfl
    have po : PassesOwn (model P w) (cxOf (L2.CX P w) P w K mg base ["_law_bag", "_law_names_here", "_law_many", "_law_terms_here", "_law_turn", "_law_thing"] "_law_terms" (defScope s_law_terms) f cdv A outer s H E).A (cxOf (L2.CX P w) P w K mg base ["_law_bag", "_law_names_here", "_law_many", "_law_terms_here", "_law_turn", "_law_thing"] "_law_terms" (defScope s_law_terms) f cdv A outer s H E).env (cxOf (L2.CX P w) P w K mg base ["_law_bag", "_law_names_here", "_law_many", "_law_terms_here", "_law_turn", "_law_thing"] "_law_terms" (defScope s_law_terms) f cdv A outer s H E).xe := passes_of (X := (cxOf (L2.CX P w) P w K mg base ["_law_bag", "_law_names_here", "_law_many", "_law_terms_here", "_law_turn", "_law_thing"] "_law_terms" (defScope s_law_terms) f cdv A outer s H E)) rfl
    obtain ⟨W, b, q, names, many, rfl, hb, hbW, hw, dq, hnl, hm0, hm5, k⟩ := h
    refine ⟨_, (pss_cons (q_set 3 nd (pe_lst pa_nil)) (pss_cons (ps_for po rfl (pi_range1 rfl T.n_range (pa_cons (pe_op op_dAdd pe_int (q_call C_law_take tk (hr.mono (by decide)) (pa_cons (pv 0) (pa_cons (pv 2) pa_nil)))) pa_nil)) (q_name 4 nd) (pss_cons (q_set 5 nd (q_call C_law_of tk (hr.mono (by decide)) (pa_cons (pv 0) (pa_cons (pe_op op_dAdd (pe_op op_dAdd (pe_lst (pa_cons pe_int (pa_cons pe_int (pa_cons pe_int (pa_cons pe_int (pa_cons (q_call C_law_take tk (hr.mono (by decide)) (pa_cons (pv 0) (pa_cons pe_int pa_nil))) pa_nil)))))) (pv 1)) (pv 1)) pa_nil)))) (pss_one (ps_expr (q_bm K PySem.F.plainAttrs_list PySem.F.slot_list_append PySem.F.type_list_append m_append (pv 3) (pa_cons (pe_tup (pa_cons (pe_ifExp (pt_cmpR (op_dEq K hr.units) (pv 4) pe_int (nomark _)) pe_str (q_call C_law_of tk (hr.mono (by decide)) (pa_cons (pv 0) (pa_cons (pe_lst (pa_cons pe_str (pa_cons pe_str pa_nil))) pa_nil)))) (pa_cons (pv 5) pa_nil))) pa_nil)))))) (pss_one (ps_ret (pv 3))))), ?_⟩
    refine g_start (σ' := some _ :: some _ :: some _ :: none :: none :: none :: []) rfl ?_
    walk_at "go"
    refine al fun p hp => ?_
    generalize hH1 : upd H p _ = H1
    obtain ⟨e1, bp⟩ := new_b (W := W) hH1 hp (by walk_at "wl")
    clear hH1
    have dq0 := dq.more hp
    walk_at "go"
    refine call_take (by walk_at "bag") (by omega) (by omega) fun d H2 d0 d1 e2 hb2 => ?_
    walk_at "go"
    have nbp : b ≠ p := fun z => hw b hbW (by rw [z]; exact hp)
    refine lp_it walk_range (fun i σ' H' => ∃ (ts : Terms) (u v : Option V), σ' = [some (.ref b), some (.ref q), some (.int (many : Nat)), some (.ref p), u, v] ∧ Ed [b] H H' ∧ Bag H' b ∧ Bld W H' p (ts.map termD) ∧ ts.length = i ∧ (∀ t ∈ ts, TmW names t.2 ∧ (t.1 = 1 ∨ t.1 = -1)) ∧ ∀ t ∈ ts.head?, t.1 = 1) ⟨[], _, _, rfl, by walk_at "ed", hb2, by walk_at "bld", rfl, fun t ht => absurd ht List.not_mem_nil, fun t ht => by cases ht⟩ (fun _ _ _ _ _ => trivial) ?_ ?_
    · rintro i x σ' H3 H4 hi ⟨ts, u, v, rfl, e3, hb3, bp3, htl, htk, hth⟩ ⟨rfl, rfl⟩
      have w3 : Wl (p :: W) H4 := by
        refine Wl.cons' bp3.alive (hw.ed e3)
      have hbp : b ∈ p :: W := List.mem_cons_of_mem _ hbW
      have dq3 : Df (p :: W) H4 (.ref q) (.list (names.map PyData.str)) := dq0.ed e3 (sub1 hbp)
      clear e1 e2 bp
      walk_at "go"
      refine call_take hb3 (by decide) (by decide) fun n H5 n0 n1 e5 hb5 => ?_
      have w5 := w3.ed e5
      walk_at "go"
      refine al fun l1 hl1 => ?_
      generalize hH6 : upd H5 l1 _ = H6
      obtain ⟨e6, dl1⟩ := new_l (W := (p :: W)) hH6 hl1 (by walk_at "dfs") (by walk_at "wl")
      clear hH6
      walk_at "go"
      refine g_addd dl1 (by walk_at "df") (w5.ed e6) (by rw [List.length_map, sizeLine_eq]; simp only [List.length_cons, List.length_nil]; omega) fun l2 H7 hl2 e7 dl2 => ?_
      walk_at "go"
      refine g_addd dl2 (by walk_at "df") ((w5.ed e6).ed e7) (by rw [List.length_append, List.length_map, sizeLine_eq]; simp only [List.length_cons, List.length_nil]; omega) fun l3 H8 hl3 e8 dl3 => ?_
      walk_at "go"
      refine call_of (by walk_at "bag") dl3 hbp (by simp) (by simp only [List.length_append, List.length_map, List.length_cons, List.length_nil]; omega) fun v1 d1 H9 hd e9 hb9 dv => ?_
      obtain ⟨tm, rfl, htm⟩ : ∃ tm, d1 = tmD tm ∧ TmW names tm := by
        simp only [List.mem_append, List.mem_cons, List.not_mem_nil, or_false, List.mem_map] at hd
        rcases hd with ((rfl | rfl | rfl | rfl | rfl) | ⟨s, hs, rfl⟩) | ⟨s, hs, rfl⟩
        · exact ⟨.num 0, rfl, by decide, by decide⟩
        · exact ⟨.num 1, rfl, by decide, by decide⟩
        · exact ⟨.num 2, rfl, by decide, by decide⟩
        · exact ⟨.num 3, rfl, by decide, by decide⟩
        · exact ⟨.num n, rfl, n0, n1⟩
        · exact ⟨.nam s, rfl, hs⟩
        · exact ⟨.nam s, rfl, hs⟩
      have w9 : Wl (p :: W) H9 := by walk_at "wl"
      have bp9 : Bld W H9 p (ts.map termD) := by walk_at "bld"
      have e39 : Ed [b] H H9 := by walk_at "ed"
      clear e5 e6 e7 e8 e9 dl1 dl2 dl3 e3
      walk_at "go"
      have hi6 : i < 6 := by omega
      refine g_iteD (fun hz => ?_) (fun hz => ?_)
      · walk_at "go"
        refine al fun t ht => ?_
        generalize hH10 : upd H9 t _ = H10
        obtain ⟨e10, dt⟩ := new_t (W := (p :: W)) hH10 ht (by walk_at "dfs") (by walk_at "wl")
        clear hH10
        walk_at "go"
        refine g_bap (by walk_at "bld") dt (by rw [List.length_map, sizeLine_eq]; omega) fun HY eY bY => ?_
        refine ⟨ts ++ [(1, tm)], _, _, rfl, by walk_at "ed", by walk_at "bag", by rw [List.map_append]; exact bY, by simp [htl], fun t ht => ?_, fun t ht => ?_⟩
        · rcases List.mem_append.mp ht with ht | ht
          · exact htk t ht
          · rw [List.mem_singleton.mp ht]; exact ⟨htm, .inl rfl⟩
        · cases ts with
          | nil => cases ht; rfl
          | cons t0 r => exact hth t ht
      · walk_at "go"
        refine al fun ls hls => ?_
        generalize hH10 : upd H9 ls _ = H10
        obtain ⟨e10, dls⟩ := new_l (W := (p :: W)) hH10 hls (by walk_at "dfs") (by walk_at "wl")
        clear hH10
        walk_at "go"
        refine call_ofC (by walk_at "bag") dls hbp fun v2 d2 H11 hd2 e11 hb11 dv2 => ?_
        obtain ⟨g, rfl, hg⟩ : ∃ g : Int, d2 = .str (opT g) ∧ (g = 1 ∨ g = -1) := by
          simp only [List.mem_cons, List.not_mem_nil, or_false] at hd2
          rcases hd2 with rfl | rfl
          · exact ⟨1, rfl, .inl rfl⟩
          · exact ⟨-1, rfl, .inr rfl⟩
        obtain rfl := dv2.isStr
        walk_at "go"
        refine al fun t ht => ?_
        generalize hH12 : upd H11 t _ = H12
        obtain ⟨e12, dt⟩ := new_t (W := (p :: W)) hH12 ht (by walk_at "dfs") (by walk_at "wl")
        clear hH12
        walk_at "go"
        refine g_bap (by walk_at "bld") dt (by rw [List.length_map, sizeLine_eq]; omega) fun HY eY bY => ?_
        refine ⟨ts ++ [(g, tm)], _, _, rfl, by walk_at "ed", by walk_at "bag", by rw [List.map_append]; exact bY, by simp [htl], fun t ht => ?_, fun t ht => ?_⟩
        · rcases List.mem_append.mp ht with ht | ht
          · exact htk t ht
          · rw [List.mem_singleton.mp ht]; exact ⟨htm, hg⟩
        · cases ts with
          | nil => exfalso; simp at htl; omega
          | cons t0 r => exact hth t ht
    · rintro σ' H3 ⟨ts, u, v, rfl, e3, hb3, bp3, htl, htk, hth⟩
      walk_at "go"
      refine k p ts H3 hp e3 hb3 bp3.done ⟨fun z => ?_, by omega, htk, hth⟩
      rw [z] at htl
      simp at htl
      omega
end
section
variable {P : Program} {w : World} {K : PySem.W.Frag} {mg : Str → Option Value} {base : Heap}
theorem ok_law_sum_text {f : Addr} {fd : FuncData} (F : FnP K "_law_sum_text" "_law_sum_text" s_law_sum_text f fd) (T : Txt K mg)   : FnOk P w K mg base (L2.CX P w) 1 f fd ["_law_terms_here"] (sp_law_sum_text K) := by
  refine F.ok sc_law_sum_text (fun vs H Q E h => ?_) (fun cdv A outer s H vs Q E hr h => ?_)
  · obtain ⟨W, p, ts, rfl, _⟩ := h
    rfl
  · have nd := sc_law_sum_text.nd
    have tk := takes_of (E := E) (X := (cxOf (L2.CX P w) P w K mg base ["_law_terms_here", "_law_k", "_law_sign", "_law_thing"] "_law_sum_text" (defScope s_law_sum_text) f cdv A outer s H E)) rfl rfl rfl rfl
    have po : PassesOwn (model P w) (cxOf (L2.CX P w) P w K mg base ["_law_terms_here", "_law_k", "_law_sign", "_law_thing"] "_law_sum_text" (defScope s_law_sum_text) f cdv A outer s H E).A (cxOf (L2.CX P w) P w K mg base ["_law_terms_here", "_law_k", "_law_sign", "_law_thing"] "_law_sum_text" (defScope s_law_sum_text) f cdv A outer s H E).env (cxOf (L2.CX P w) P w K mg base ["_law_terms_here", "_law_k", "_law_sign", "_law_thing"] "_law_sum_text" (defScope s_law_sum_text) f cdv A outer s H E).xe := passes_of (X := (cxOf (L2.CX P w) P w K mg base ["_law_terms_here", "_law_k", "_law_sign", "_law_thing"] "_law_sum_text" (defScope s_law_sum_text) f cdv A outer s H E)) rfl
    obtain ⟨W, p, ts, rfl, dp, hw, hl, hts, k⟩ := h
    refine ⟨_, (pss_one (ps_ret (q_bm K PySem.F.plainAttrs_str PySem.F.slot_str_join PySem.F.type_str_join (m_join K) pe_str (pa_cons (pe_lc (own := [("_law_k", 1), ("_law_sign", 2), ("_law_thing", 3)]) (tt := tYes) rfl nd (q_enum K T.n_enumerate (pa_cons (pv 0) pa_nil)) (blkOk_by (own := [("_law_k", 1), ("_law_sign", 2), ("_law_thing", 3)]) (N := ["_law_terms_here", "_law_k", "_law_sign", "_law_thing"]) (sc := defScope s_law_sum_text) (by decide +kernel)) (fun _ _ _ _ _ => (q_gtup K 2 (pgs_cons (q_name 1 nd) (pgs_cons (q_gtup K 2 (pgs_cons (q_name 2 nd) (pgs_cons (q_name 3 nd) pgs_nil))) pgs_nil)))) (fun _ _ _ _ _ => pts_nil) (fun _ _ _ _ _ => (pe_op op_dAdd (pe_ifExp (pt_cmpR (op_dEq K hr.units) (pv 1) pe_int (nomark _)) pe_str (pe_op op_dAdd (pv 2) pe_str)) (pe_callTy cl_str (by rfl) T.n_str bt_str (pa_cons (pv 3) pa_nil))))) pa_nil)))), ?_⟩
    refine g_start (σ' := some _ :: none :: none :: none :: []) rfl ?_
    walk_at "go"
    intro D hD
    refine lc_en (by walk_at "wipe") (U := []) (W := W) dp (by rw [List.length_map, sizeLine_eq]; omega) hD hw no0 (fun i acc => acc = ((ts.take i).mapIdx pcT).map PyData.str) (fun _ => True) (fun _ _ _ _ => trivial) (fun _ _ _ _ => trivial) trivial rfl ?_ ?_
    · rintro i x t d acc H1 R N hd hacc _ e1 w1 ht hx yes no
      obtain ⟨τ, hτ, rfl⟩ := at_map hd
      obtain ⟨pa, rfl⟩ := Df.isRefT hx
      have hs := hts τ (List.mem_of_getElem? hτ)
      have hsl := tok_len hs
      have hol := op_len (f := τ.1)
      walk_at "go"
      refine g_gtupd hx rfl fun xs hxs => ?_
      obtain ⟨v, rfl, hv⟩ := cells2 hxs
      walk_at "go"
      refine ⟨rfl, ?_⟩
      walk_at "go"
      refine g_iteD (fun hz => ?_) (fun hz => ?_)
      · walk_at "go"
        refine g_strT hv hs ?_
        refine g_add_s (by rw [sizeLine_eq, show (("" : Str)).length = 0 from rfl]; omega) ?_
        refine yes _ _ _ Ed.refl (.str _) trivial ?_
        rw [hacc, mapIdx_take hτ, List.map_append]
        obtain rfl : i = 0 := by omega
        rfl
      · walk_at "go"
        refine g_add_s (by rw [sizeLine_eq, hol]; decide) ?_
        walk_at "go"
        refine g_strT hv hs ?_
        refine g_add_s (by rw [sizeLine_eq, Str.length_append, hol, show ((" " : Str)).length = 1 from rfl]; omega) ?_
        refine yes _ _ _ Ed.refl (.str _) trivial ?_
        rw [hacc, mapIdx_take hτ, List.map_append]
        have e : pcT i τ = opT τ.1 ++ " " ++ τ.2.tok := by unfold pcT; rw [if_neg (by omega)]
        rw [e]
        rfl
    · rintro acc H1 hacc _ e1 dD _
      rw [take_all rfl] at hacc
      subst hacc
      walk_at "go"
      have hll : ∀ t ∈ ts.mapIdx pcT, t.length ≤ 10 := fun t ht => by
        obtain ⟨i, hi, rfl⟩ := List.mem_mapIdx.mp ht
        have h1 := tok_len (hts _ (List.getElem_mem hi))
        have h2 := op_len (f := (ts[i]).1)
        unfold pcT
        rw [Str.length_append]
        split
        · rw [show (("" : Str)).length = 0 from rfl]; omega
        · rw [Str.length_append, h2, show ((" " : Str)).length = 1 from rfl]; omega
      have h1 := sum_len_le hll
      rw [List.length_mapIdx] at h1
      refine g_joind dD (by rw [List.length_mapIdx, show ((" " : Str)).length = 1 from rfl]; omega) ?_
      rw [join_txt, join_sum]
      exact k H1 e1
end
section
variable {P : Program} {w : World} {K : PySem.W.Frag} {mg : Str → Option Value} {base : Heap}
theorem ok_law_atom {f : Addr} {fd : FuncData} (F : FnP K "_law_atom" "_law_atom" s_law_atom f fd) (T : Txt K mg) (C_law_of : Cal P w K mg base 2 "_law_of" ["_law_bag", "_law_some"] (sp_law_of K)) (C_law_terms : Cal P w K mg base 3 "_law_terms" ["_law_bag", "_law_names_here", "_law_many"] (sp_law_terms K))  : FnOk P w K mg base (L2.CX P w) 4 f fd ["_law_bag", "_law_names_here", "_law_handles", "_law_requests"] (sp_law_atom K) := by
  refine F.ok sc_law_atom (fun vs H Q E h => ?_) (fun cdv A outer s H vs Q E hr h => ?_)
  · obtain ⟨W, b, q, h, r, names, hs, rs, rfl, _⟩ := h
    rfl
  · have nd := sc_law_atom.nd
    have tk := takes_of (E := E) (X := (cxOf (L2.CX P w) P w K mg base ["_law_bag", "_law_names_here", "_law_handles", "_law_requests", "_law_word", "_law_nots", "_law_sign"] "_law_atom" (defScope s_law_atom) f cdv A outer s H E)) rfl rfl rfl rfl
    have po : PassesOwn (model P w) (cxOf (L2.CX P w) P w K mg base ["_law_bag", "_law_names_here", "_law_handles", "_law_requests", "_law_word", "_law_nots", "_law_sign"] "_law_atom" (defScope s_law_atom) f cdv A outer s H E).A (cxOf (L2.CX P w) P w K mg base ["_law_bag", "_law_names_here", "_law_handles", "_law_requests", "_law_word", "_law_nots", "_law_sign"] "_law_atom" (defScope s_law_atom) f cdv A outer s H E).env (cxOf (L2.CX P w) P w K mg base ["_law_bag", "_law_names_here", "_law_handles", "_law_requests", "_law_word", "_law_nots", "_law_sign"] "_law_atom" (defScope s_law_atom) f cdv A outer s H E).xe := passes_of (X := (cxOf (L2.CX P w) P w K mg base ["_law_bag", "_law_names_here", "_law_handles", "_law_requests", "_law_word", "_law_nots", "_law_sign"] "_law_atom" (defScope s_law_atom) f cdv A outer s H E)) rfl
    obtain ⟨W, b, q, h, r, names, hs, rs, rfl, hb, hbW, hw, dq, dh, dr, l1, l2, l3, sk1, sk2, k⟩ := h
    refine ⟨_, (pss_cons (q_set 4 nd (q_call C_law_of tk (hr.mono (by decide)) (pa_cons (pv 0) (pa_cons (pe_lst (pa_cons pe_str (pa_cons pe_str (pa_cons pe_str (pa_cons pe_str (pa_cons pe_str (pa_cons pe_str (pa_cons pe_str (pa_cons pe_str (pa_cons pe_str pa_nil)))))))))) pa_nil)))) (pss_cons (q_set 5 nd (q_call C_law_of tk (hr.mono (by decide)) (pa_cons (pv 0) (pa_cons (pe_lst (pa_cons pe_int (pa_cons pe_int (pa_cons pe_int (pa_cons pe_int (pa_cons pe_int pa_nil)))))) pa_nil)))) (pss_cut (ps_if (PW.pt (pw_and (pt_cmpR (op_dIn K) (pv 4) (pe_lst (pa_cons pe_str (pa_cons pe_str pa_nil))) (by rfl)) (pw_and1 (pt_cmpR (op_dNe K hr.units) (pv 2) (pe_lst pa_nil) (nomark _))))) (pss_one (ps_ret (pe_tup (pa_cons (pv 5) (pa_cons (pv 4) (pa_cons (q_call C_law_of tk (hr.mono (by decide)) (pa_cons (pv 0) (pa_cons (pv 2) pa_nil))) (pa_cons (pe_lst pa_nil) pa_nil))))))) pss_nil) (pss_cut (ps_if (PW.pt (pw_and (pt_cmpR (op_dEq K hr.units) (pv 4) pe_str (nomark _)) (pw_and1 (pt_cmpR (op_dNe K hr.units) (pv 3) (pe_lst pa_nil) (nomark _))))) (pss_one (ps_ret (pe_tup (pa_cons (pv 5) (pa_cons (pv 4) (pa_cons (q_call C_law_of tk (hr.mono (by decide)) (pa_cons (pv 0) (pa_cons (pv 3) pa_nil))) (pa_cons (pe_lst pa_nil) pa_nil))))))) pss_nil) (pss_cons (q_set 6 nd (pe_ifExp (pt_cmpR (op_dNotIn K) (pv 4) (pe_lst (pa_cons pe_str (pa_cons pe_str (pa_cons pe_str pa_nil)))) (by rfl)) (pv 4) pe_str)) (pss_one (ps_ret (pe_tup (pa_cons (pv 5) (pa_cons (pv 6) (pa_cons (q_call C_law_terms tk (hr.mono (by decide)) (pa_cons (pv 0) (pa_cons (pv 1) (pa_cons pe_int pa_nil)))) (pa_cons (q_call C_law_terms tk (hr.mono (by decide)) (pa_cons (pv 0) (pa_cons (pv 1) (pa_cons pe_int pa_nil)))) pa_nil)))))))))))), ?_⟩
    refine g_start (σ' := some _ :: some _ :: some _ :: some _ :: none :: none :: none :: []) rfl ?_
    walk_at "go"
    refine al fun a1 ha1 => ?_
    generalize hH1 : upd H a1 _ = H1
    obtain ⟨e1, da1⟩ := new_l (W := W) hH1 ha1 (by walk_at "dfs") (by walk_at "wl")
    clear hH1
    walk_at "go"
    refine call_ofC (by walk_at "bag") da1 hbW fun v d H2 hd e2 hb2 dv => ?_
    obtain ⟨w, hw9, rfl⟩ : ∃ w, w ∈ words9 ∧ d = .str w := by
      obtain ⟨w, h1, h2⟩ := List.mem_map.mp (show d ∈ words9.map PyData.str from hd)
      exact ⟨w, h1, h2.symm⟩
    obtain rfl := dv.isStr
    walk_at "go"
    refine al fun a2 ha2 => ?_
    generalize hH3 : upd H2 a2 _ = H3
    obtain ⟨e3, da2⟩ := new_l (W := W) hH3 ha2 (by walk_at "dfs") (by walk_at "wl")
    clear hH3
    walk_at "go"
    refine call_ofC (by walk_at "bag") da2 hbW fun v d H4 hd e4 hb4 dv => ?_
    obtain ⟨n, hn, rfl⟩ : ∃ n : Nat, n ≤ 2 ∧ d = .int (n : Nat) := by
      simp only [List.mem_cons, List.not_mem_nil, or_false] at hd
      rcases hd with rfl | rfl | rfl | rfl | rfl
      · exact ⟨0, by decide, rfl⟩
      · exact ⟨0, by decide, rfl⟩
      · exact ⟨0, by decide, rfl⟩
      · exact ⟨1, by decide, rfl⟩
      · exact ⟨2, by decide, rfl⟩
    obtain rfl := dv.isInt
    have e04 : Ed [b] H H4 := by walk_at "ed"
    have w4 := hw.ed e04
    clear e1 e2 e3 e4 da1 da2
    walk_at "go"
    refine g_cut (fun σ' H' => σ' = [some (.ref b), some (.ref q), some (.ref h), some (.ref r), some (.str w), some (.int (n : Nat)), none] ∧ Ed [b] H H' ∧ Bag H' b ∧ ¬ (w ∈ (["none", "live"] : List Str) ∧ hs ≠ [])) (fun R hR => ?_) ?_
    · walk_at "go"
      refine al fun a3 ha3 => ?_
      generalize hH5 : upd H4 a3 _ = H5
      obtain ⟨e5, da3⟩ := new_l (W := W) hH5 ha3 (by walk_at "dfs") (by walk_at "wl")
      clear hH5
      have da3 : Df W H5 (.ref a3) (.list ((["none", "live"] : List Str).map PyData.str)) := da3
      walk_at "go"
      refine g_iteD (fun hin => ?_) (fun hin => ?_)
      · walk_at "go"
        refine al fun a4 ha4 => ?_
        generalize hH6 : upd H5 a4 _ = H6
        obtain ⟨e6, da4⟩ := new_l (W := W) hH6 ha4 (by walk_at "dfs") (by walk_at "wl")
        clear hH6
        have dh6 : Df W H6 (.ref h) (.list (hs.map PyData.str)) := by walk_at "df"
        refine g_ned dh6 da4 (Sh.strs sk1) Sh.nil ?_
        rw [eqv_nil, strs_nil]
        walk_at "go"
        refine g_iteN (fun hne => ?_) (fun hne => ?_)
        · walk_at "go"
          have hl : 0 < hs.length := by cases hs with | nil => exact absurd rfl hne | cons _ _ => simp
          refine call_of (by walk_at "bag") dh6 hbW (by rw [List.length_map]; exact hl) (by rw [List.length_map]; omega) fun v d H7 hd e7 hb7 dv => ?_
          obtain ⟨x, hx, rfl⟩ := List.mem_map.mp hd
          obtain rfl := dv.isStr
          walk_at "go"
          refine al fun a5 ha5 => ?_
          generalize hH8 : upd H7 a5 _ = H8
          obtain ⟨e8, da5⟩ := new_l (W := W) hH8 ha5 (by walk_at "dfs") (by walk_at "wl")
          clear hH8
          walk_at "go"
          refine al fun t ht => ?_
          generalize hH9 : upd H8 t _ = H9
          obtain ⟨e9, dt⟩ := new_t (W := W) hH9 ht (by walk_at "dfs") (by walk_at "wl")
          clear hH9
          exact k _ (n, .word (decide (n % 2 = 0)) w x) H9 (by walk_at "ed") (by walk_at "bag") dt ⟨hn, rfl, .inl ⟨hin, hx⟩⟩
        · walk_at "go"
          exact hR _ _ ⟨rfl, by walk_at "ed", by walk_at "bag", fun z => z.2 hne⟩
      · walk_at "go"
        exact hR _ _ ⟨rfl, by walk_at "ed", by walk_at "bag", fun z => hin z.1⟩
    rintro σ' H5 ⟨rfl, e5, hb5, hno⟩
    have w5 := hw.ed e5
    clear e04 w4 hb4 hb2
    walk_at "go"
    refine g_cut (fun σ' H' => σ' = [some (.ref b), some (.ref q), some (.ref h), some (.ref r), some (.str w), some (.int (n : Nat)), none] ∧ Ed [b] H H' ∧ Bag H' b) (fun R hR => ?_) ?_
    · walk_at "go"
      refine g_iteD (fun hin => ?_) (fun hin => ?_)
      · walk_at "go"
        refine al fun a4 ha4 => ?_
        generalize hH6 : upd H5 a4 _ = H6
        obtain ⟨e6, da4⟩ := new_l (W := W) hH6 ha4 (by walk_at "dfs") (by walk_at "wl")
        clear hH6
        have dr6 : Df W H6 (.ref r) (.list (rs.map PyData.str)) := by walk_at "df"
        refine g_ned dr6 da4 (Sh.strs sk2) Sh.nil ?_
        rw [eqv_nil, strs_nil]
        walk_at "go"
        refine g_iteN (fun hne => ?_) (fun hne => ?_)
        · walk_at "go"
          have hl : 0 < rs.length := by cases rs with | nil => exact absurd rfl hne | cons _ _ => simp
          refine call_of (by walk_at "bag") dr6 hbW (by rw [List.length_map]; exact hl) (by rw [List.length_map]; omega) fun v d H7 hd e7 hb7 dv => ?_
          obtain ⟨x, hx, rfl⟩ := List.mem_map.mp hd
          obtain rfl := dv.isStr
          walk_at "go"
          refine al fun a5 ha5 => ?_
          generalize hH8 : upd H7 a5 _ = H8
          obtain ⟨e8, da5⟩ := new_l (W := W) hH8 ha5 (by walk_at "dfs") (by walk_at "wl")
          clear hH8
          walk_at "go"
          refine al fun t ht => ?_
          generalize hH9 : upd H8 t _ = H9
          obtain ⟨e9, dt⟩ := new_t (W := W) hH9 ht (by walk_at "dfs") (by walk_at "wl")
          clear hH9
          exact k _ (n, .word (decide (n % 2 = 0)) w x) H9 (by walk_at "ed") (by walk_at "bag") dt ⟨hn, rfl, .inr ⟨hin, hx⟩⟩
        · walk_at "go"
          exact hR _ _ ⟨rfl, by walk_at "ed", by walk_at "bag"⟩
      · walk_at "go"
        exact hR _ _ ⟨rfl, by walk_at "ed", by walk_at "bag"⟩
    rintro σ' H6 ⟨rfl, e6, hb6⟩
    have w6 := hw.ed e6
    clear e5 w5 hb5
    walk_at "go"
    refine al fun a6 ha6 => ?_
    generalize hH7 : upd H6 a6 _ = H7
    obtain ⟨e7, da6⟩ := new_l (W := W) hH7 ha6 (by walk_at "dfs") (by walk_at "wl")
    clear hH7
    have da6 : Df W H7 (.ref a6) (.list ((["none", "live", "open"] : List Str).map PyData.str)) := da6
    walk_at "go"
    have fin : ∀ (s : Str) (H7 : Hp) (R : VK), s ∈ signs6 → Ed [b] H H7 → Bag H7 b → (∀ v a H', Ed [b] H H' → Bag H' b → Df W H' v (naD a) → NaW names hs rs a → R v H') → tTup (tCons (tVar 5) (tCons (tVar 6) (tCons (tCallS (sp_law_terms K) (WE fun cls d x H => E cls d H) (tCons (tVar 0) (tCons (tVar 1) (tCons (tC (V.int 2)) tNil)))) (tCons (tCallS (sp_law_terms K) (WE fun cls d x H => E cls d H) (tCons (tVar 0) (tCons (tVar 1) (tCons (tC (V.int 2)) tNil)))) tNil)))) [some (.ref b), some (.ref q), some (.ref h), some (.ref r), some (.str w), some (.int (n : Nat)), some (.str s)] H7 R := by
      intro s H7 R hs6 e7 hb7 kR
      have w7 := hw.ed e7
      have dq7 := dq.ed e7 (sub1 hbW)
      clear e6 hb6 w6
      walk_at "go"
      refine call_terms (many := 2) rfl hb7 hbW w7 dq7 l1 (by decide) (by decide) fun p1 t1 H8 hp1 e8 hb8 d1 tw1 => ?_
      walk_at "go"
      refine call_terms (many := 2) rfl hb8 hbW (w7.ed e8) (dq7.ed e8 (sub1 hbW)) l1 (by decide) (by decide) fun p2 t2 H9 hp2 e9 hb9 d2 tw2 => ?_
      walk_at "go"
      refine al fun t ht => ?_
      generalize hH10 : upd H9 t _ = H10
      obtain ⟨e10, dt⟩ := new_t (W := W) hH10 ht (by walk_at "dfs") (by walk_at "wl")
      clear hH10
      exact kR _ (n, .cmp (decide (n % 2 = 0)) s t1 t2) H10 (by walk_at "ed") (by walk_at "bag") dt ⟨hn, rfl, hs6, tw1, tw2⟩
    refine g_iteN (fun hz => ?_) (fun hz => ?_)
    · walk_at "go1"
      walk_at "go1"
      walk_at "go1"
      walk_at "go1"
      exact fin w H7 Q (word9s w hw9 hz) (by clear fin; walk_at "ed") (by walk_at "bag") k
    · walk_at "go1"
      walk_at "go1"
      walk_at "go1"
      walk_at "go1"
      exact fin "=" H7 Q (by decide +kernel) (by clear fin; walk_at "ed") (by walk_at "bag") k
end
section
variable {P : Program} {w : World} {K : PySem.W.Frag} {mg : Str → Option Value} {base : Heap}
theorem ok_law_condition {f : Addr} {fd : FuncData} (F : FnP K "_law_condition" "_law_condition" s_law_condition f fd) (T : Txt K mg) (C_law_atom : Cal P w K mg base 4 "_law_atom" ["_law_bag", "_law_names_here", "_law_handles", "_law_requests"] (sp_law_atom K)) (C_law_take : Cal P w K mg base 1 "_law_take" ["_law_bag", "_law_many"] (sp_law_take K))  : FnOk P w K mg base (L2.CX P w) 5 f fd ["_law_bag", "_law_names_here", "_law_handles", "_law_requests", "_law_most"] (sp_law_condition K) := by
  refine F.ok sc_law_condition (fun vs H Q E h => ?_) (fun cdv A outer s H vs Q E hr h => ?_)
  · obtain ⟨W, b, q, h, r, names, hs, rs, most, rfl, _⟩ := h
    rfl
  · have nd := sc_law_condition.nd
    have tk := takes_of (E := E) (X := (cxOf (L2.CX P w) P w K mg base ["_law_bag", "_law_names_here", "_law_handles", "_law_requests", "_law_most", "_law_parts", "_law_turn", "_law_each"] "_law_condition" (defScope s_law_condition) f cdv A outer s H E)) rfl rfl rfl rfl
    have po : PassesOwn (model P w) (cxOf (L2.CX P w) P w K mg base ["_law_bag", "_law_names_here", "_law_handles", "_law_requests", "_law_most", "_law_parts", "_law_turn", "_law_each"] "_law_condition" (defScope s_law_condition) f cdv A outer s H E).A (cxOf (L2.CX P w) P w K mg base ["_law_bag", "_law_names_here", "_law_handles", "_law_requests", "_law_most", "_law_parts", "_law_turn", "_law_each"] "_law_condition" (defScope s_law_condition) f cdv A outer s H E).env (cxOf (L2.CX P w) P w K mg base ["_law_bag", "_law_names_here", "_law_handles", "_law_requests", "_law_most", "_law_parts", "_law_turn", "_law_each"] "_law_condition" (defScope s_law_condition) f cdv A outer s H E).xe := passes_of (X := (cxOf (L2.CX P w) P w K mg base ["_law_bag", "_law_names_here", "_law_handles", "_law_requests", "_law_most", "_law_parts", "_law_turn", "_law_each"] "_law_condition" (defScope s_law_condition) f cdv A outer s H E)) rfl
    obtain ⟨W, b, q, h, r, names, hs, rs, most, rfl, hb, hbW, hw, dq, dh, dr, l1, l2, l3, sk1, sk2, m0, m10, k⟩ := h
    refine ⟨_, (pss_cons (q_set 5 nd (pe_lst pa_nil)) (pss_cons (ps_for po rfl (pi_range1 rfl T.n_range (pa_cons (pe_op op_dAdd pe_int (q_call C_law_take tk (hr.mono (by decide)) (pa_cons (pv 0) (pa_cons (pv 4) pa_nil)))) pa_nil)) (q_name 6 nd) (pss_one (ps_expr (q_bm K PySem.F.plainAttrs_list PySem.F.slot_list_append PySem.F.type_list_append m_append (pv 5) (pa_cons (pe_lc (own := [("_law_each", 7)]) (tt := tYes) rfl nd (pi_range1 rfl T.n_range (pa_cons (pe_op op_dAdd pe_int (q_call C_law_take tk (hr.mono (by decide)) (pa_cons (pv 0) (pa_cons (pv 4) pa_nil)))) pa_nil)) (blkOk_by (own := [("_law_each", 7)]) (N := ["_law_bag", "_law_names_here", "_law_handles", "_law_requests", "_law_most", "_law_parts", "_law_turn", "_law_each"]) (sc := defScope s_law_condition) (by decide +kernel)) (fun _ _ _ _ _ => (q_name 7 nd)) (fun _ _ _ _ _ => pts_nil) (fun _ _ _ _ _ => (q_call C_law_atom takes0 (hr.mono (by decide)) (pa_cons (pv 0) (pa_cons (pv 1) (pa_cons (pv 2) (pa_cons (pv 3) pa_nil))))))) pa_nil))))) (pss_one (ps_ret (pv 5))))), ?_⟩
    refine g_start (σ' := some _ :: some _ :: some _ :: some _ :: some _ :: none :: none :: none :: []) rfl ?_
    walk_at "go"
    refine al fun p hp => ?_
    generalize hH1 : upd H p _ = H1
    obtain ⟨e1, bp⟩ := new_b (W := W) hH1 hp (by walk_at "wl")
    clear hH1
    have dq0 := dq.more hp
    have dh0 := dh.more hp
    have dr0 := dr.more hp
    walk_at "go"
    refine call_take (by walk_at "bag") (by omega) (by omega) fun d H2 d0 d1 e2 hb2 => ?_
    walk_at "go"
    refine lp_it walk_range (fun i σ' H' => ∃ (ps : List (List (Nat × Atom))) (u v : Option V), σ' = [some (.ref b), some (.ref q), some (.ref h), some (.ref r), some (.int (most : Nat)), some (.ref p), u, v] ∧ Ed [b] H H' ∧ Bag H' b ∧ Bld W H' p (ps.map partD) ∧ ps.length = i ∧ ∀ x ∈ ps, PtW names hs rs most x) ⟨[], _, _, rfl, by walk_at "ed", hb2, by walk_at "bld", rfl, fun t ht => absurd ht List.not_mem_nil⟩ (fun _ _ _ _ _ => trivial) ?_ ?_
    · rintro i x σ' H3 H4 hi ⟨ps, u, v, rfl, e3, hb3, bp3, hpl, hpo⟩ ⟨rfl, rfl⟩
      have w3 : Wl (p :: W) H4 := Wl.cons' bp3.alive (hw.ed e3)
      have hbp : b ∈ p :: W := List.mem_cons_of_mem _ hbW
      clear e1 e2 bp
      walk_at "go"
      refine call_take hb3 (by omega) (by omega) fun m H5 n0 n1 e5 hb5 => ?_
      have w5 := w3.ed e5
      have e35 : Ed [b] H H5 := by walk_at "ed"
      have dq5 := dq0.ed e35 (sub1 hbp)
      have dh5 := dh0.ed e35 (sub1 hbp)
      have dr5 := dr0.ed e35 (sub1 hbp)
      have bp5 := bp3.ed e5 (sub1 hbW)
      clear e5 e3
      walk_at "go"
      intro D hD
      have w5D : ∀ H', Ed [b] H5 H' → Wl (p :: W) H' := fun H' e => w5.ed e
      have dq6 := dq5.more hD
      have dh6 := dh5.more hD
      have dr6 := dr5.more hD
      have hbD : b ∈ D :: p :: W := List.mem_cons_of_mem _ hbp
      refine lc_rg (by walk_at "wipe") (U := [b]) (W := p :: W) (by rw [sizeLine_eq]; omega) hD w5 (sub1 hbp) (fun j acc => ∃ pt : List (Nat × Atom), acc = pt.map naD ∧ pt.length = j ∧ ∀ a ∈ pt, NaW names hs rs a) (fun H' => Bag H' b) (bagJ w5 hD hbp) hb5 ⟨[], rfl, rfl, fun p hp => absurd hp List.not_mem_nil⟩ ?_ ?_
      · rintro j acc H6 R N hj ⟨pt, rfl, hpj, hpx⟩ hb6 e6 w6 yes no
        walk_at "go"
        refine ⟨rfl, ?_⟩
        walk_at "go"
        refine ⟨D :: p :: W, b, q, h, r, names, hs, rs, rfl, hb6, hbD, w6, dq6.ed e6 (sub1 hbD), dh6.ed e6 (sub1 hbD), dr6.ed e6 (sub1 hbD), l1, l2, l3, sk1, sk2, fun v a H7 e7 hb7 dv na => ?_⟩
        refine yes _ _ _ e7 dv hb7 ⟨pt ++ [a], by rw [List.map_append]; rfl, by simp [hpj], fun y hy => ?_⟩
        rcases List.mem_append.mp hy with hy | hy
        · exact hpx y hy
        · rw [List.mem_singleton.mp hy]; exact na
      · rintro acc H6 ⟨pt, rfl, hpj, hpx⟩ hb6 e6 dD _
        walk_at "go"
        refine g_bap (bp5.ed e6 (sub1 hbW)) dD (by rw [List.length_map, sizeLine_eq]; omega) fun H7 e7 b7 => ?_
        refine ⟨ps ++ [pt], _, _, rfl, by walk_at "ed", by walk_at "bag", by rw [List.map_append]; exact b7, by simp [hpl], fun y hy => ?_⟩
        rcases List.mem_append.mp hy with hy | hy
        · exact hpo y hy
        · rw [List.mem_singleton.mp hy]
          exact ⟨fun z => by rw [z] at hpj; simp at hpj; omega, by omega, hpx⟩
    · rintro σ' H3 ⟨ps, u, v, rfl, e3, hb3, bp3, hpl, hpo⟩
      walk_at "go"
      refine k p ps H3 hp e3 hb3 bp3.done ⟨fun z => ?_, by omega, hpo⟩
      rw [z] at hpl
      simp at hpl
      omega
end
section
variable {P : Program} {w : World} {K : PySem.W.Frag} {mg : Str → Option Value} {base : Heap}
theorem ok_law_atom_text {f : Addr} {fd : FuncData} (F : FnP K "_law_atom_text" "_law_atom_text" s_law_atom_text f fd) (T : Txt K mg) (C_law_sum_text : Cal P w K mg base 1 "_law_sum_text" ["_law_terms_here"] (sp_law_sum_text K))  : FnOk P w K mg base (L2.CX P w) 2 f fd ["_law_atom_here"] (sp_law_atom_text K) := by
  refine F.ok sc_law_atom_text (fun vs H Q E h => ?_) (fun cdv A outer s H vs Q E hr h => ?_)
  · obtain ⟨W, v, a, rfl, _⟩ := h
    rfl
  · have nd := sc_law_atom_text.nd
    have tk := takes_of (E := E) (X := (cxOf (L2.CX P w) P w K mg base ["_law_atom_here", "_law_nots", "_law_word", "_law_left", "_law_right"] "_law_atom_text" (defScope s_law_atom_text) f cdv A outer s H E)) rfl rfl rfl rfl
    have po : PassesOwn (model P w) (cxOf (L2.CX P w) P w K mg base ["_law_atom_here", "_law_nots", "_law_word", "_law_left", "_law_right"] "_law_atom_text" (defScope s_law_atom_text) f cdv A outer s H E).A (cxOf (L2.CX P w) P w K mg base ["_law_atom_here", "_law_nots", "_law_word", "_law_left", "_law_right"] "_law_atom_text" (defScope s_law_atom_text) f cdv A outer s H E).env (cxOf (L2.CX P w) P w K mg base ["_law_atom_here", "_law_nots", "_law_word", "_law_left", "_law_right"] "_law_atom_text" (defScope s_law_atom_text) f cdv A outer s H E).xe := passes_of (X := (cxOf (L2.CX P w) P w K mg base ["_law_atom_here", "_law_nots", "_law_word", "_law_left", "_law_right"] "_law_atom_text" (defScope s_law_atom_text) f cdv A outer s H E)) rfl
    obtain ⟨W, v, ⟨n, a⟩, rfl, dv, hw, ⟨hn, hs⟩, k⟩ := h
    have hn : n ≤ 2 := hn
    have hrl : (rep "not " n).length ≤ 8 := by
      rw [rep_len, show (("not " : Str)).length = 4 from rfl]; omega
    have l1 : ((" " : Str)).length = 1 := rfl
    refine ⟨_, (pss_cons (ps_asg (pv 0) (q_gtup K 4 (pgs_cons (q_name 1 nd) (pgs_cons (q_name 2 nd) (pgs_cons (q_name 3 nd) (pgs_cons (q_name 4 nd) pgs_nil)))))) (pss_cons (ps_if (q_truth K (pe_callB (cl_isinstance K) (by rfl) T.n_isinstance bt_isinstance (pa_cons (pv 3) (pa_cons (q_bltn T.n_str bt_str) pa_nil)))) (pss_one (ps_ret (pe_op op_dAdd (pe_op op_dAdd (pe_op op_dAdd (pe_op op_dMul pe_str (pv 1)) (pv 2)) pe_str) (pv 3)))) pss_nil) (pss_one (ps_ret (pe_op op_dAdd (pe_op op_dAdd (pe_op op_dAdd (pe_op op_dAdd (pe_op op_dAdd (pe_op op_dMul pe_str (pv 1)) (q_call C_law_sum_text tk (hr.mono (by decide)) (pa_cons (pv 3) pa_nil))) pe_str) (pv 2)) pe_str) (q_call C_law_sum_text tk (hr.mono (by decide)) (pa_cons (pv 4) pa_nil))))))), ?_⟩
    refine g_start (σ' := some _ :: none :: none :: none :: none :: []) rfl ?_
    cases a with
    | word bb w x =>
      obtain ⟨hs1, hs2⟩ := hs
      obtain ⟨t, rfl⟩ := Df.isRefT dv
      walk_at "go"
      refine g_gtupd dv rfl fun xs hxs => ?_
      obtain ⟨v1, v2, rfl, d1, d2⟩ := cells4 hxs
      obtain rfl := d1.isStr
      walk_at "go"
      refine g_isi (b := true) (.ty _) (.base (.str _)) (by rfl) ?_
      walk_at "go"
      refine g_mul_s (mulOk_small (by omega) (by omega) (by decide)) ?_
      rw [mul_rep (by omega), Int.toNat_natCast]
      walk_at "go"
      refine g_add_s (by rw [sizeLine_eq]; omega) ?_
      walk_at "go"
      refine g_add_s (by rw [sizeLine_eq, Str.length_append]; omega) ?_
      walk_at "go"
      refine g_add_s (by rw [sizeLine_eq, Str.length_append, Str.length_append]; omega) ?_
      have e : spc (naT (n, .word bb w x)) = rep "not " n ++ w ++ " " ++ x := by
        show spc (List.replicate n ("not" : Str) ++ [w, x]) = _
        rw [← rep_spc (by simp), spc_cons (by simp)]
        show rep "not " n ++ (w ++ " " ++ x) = _
        simp only [app_assoc]
      have := k H Ed.refl
      rw [e] at this
      exact this
    | cmp bb s l r =>
      obtain ⟨h1, h2, h3, h4, h5, h6, h7⟩ := hs
      have a1 := sumT_len h4 h6
      have a2 := sumT_len h5 h7
      obtain ⟨t, rfl⟩ := Df.isRefT dv
      walk_at "go"
      refine g_gtupd dv rfl fun xs hxs => ?_
      obtain ⟨v1, v2, rfl, d1, d2⟩ := cells4 hxs
      obtain ⟨p1, rfl⟩ := Df.isRefL d1
      obtain ⟨p2, rfl⟩ := Df.isRefL d2
      obtain ⟨ys, _, hc, _⟩ := d1.cells
      walk_at "go"
      refine g_isi (b := false) (.ty _) (.base (.lst hc)) (by rfl) ?_
      walk_at "go"
      refine g_mul_s (mulOk_small (by omega) (by omega) (by decide)) ?_
      rw [mul_rep (by omega), Int.toNat_natCast]
      walk_at "go"
      refine ⟨W, p1, l, rfl, d1, hw, h4, h6, fun H1 e1 => ?_⟩
      refine g_add_s (by rw [sizeLine_eq]; omega) ?_
      walk_at "go"
      refine g_add_s (by rw [sizeLine_eq, Str.length_append]; omega) ?_
      walk_at "go"
      refine g_add_s (by rw [sizeLine_eq, Str.length_append, Str.length_append]; omega) ?_
      walk_at "go"
      refine g_add_s (by rw [sizeLine_eq, Str.length_append, Str.length_append, Str.length_append]; omega) ?_
      walk_at "go"
      refine ⟨W, p2, r, rfl, d2.ed e1 no0, hw.ed e1, h5, h7, fun H2 e2 => ?_⟩
      refine g_add_s (by rw [sizeLine_eq, Str.length_append, Str.length_append, Str.length_append, Str.length_append]; omega) ?_
      have e : spc (naT (n, .cmp bb s l r)) = rep "not " n ++ spc (sumT l) ++ " " ++ s ++ " " ++ spc (sumT r) := by
        show spc (List.replicate n ("not" : Str) ++ (sumT l ++ (s :: sumT r))) = _
        rw [← rep_spc (by simp), spc_app (sumT_ne h2) (by simp), spc_cons (sumT_ne h3)]
        show rep "not " n ++ _ = _
        simp only [app_assoc]
      have := k H2 (by walk_at "ed")
      rw [e] at this
      exact this
end
section
variable {P : Program} {w : World} {K : PySem.W.Frag} {mg : Str → Option Value} {base : Heap}
theorem ok_law_condition_text {f : Addr} {fd : FuncData} (F : FnP K "_law_condition_text" "_law_condition_text" s_law_condition_text f fd) (T : Txt K mg) (C_law_atom_text : Cal P w K mg base 2 "_law_atom_text" ["_law_atom_here"] (sp_law_atom_text K))  : FnOk P w K mg base (L2.CX P w) 3 f fd ["_law_parts"] (sp_law_condition_text K) := by
  refine F.ok sc_law_condition_text (fun vs H Q E h => ?_) (fun cdv A outer s H vs Q E hr h => ?_)
  · obtain ⟨W, p, ps, rfl, _⟩ := h
    rfl
  · have nd := sc_law_condition_text.nd
    have tk := takes_of (E := E) (X := (cxOf (L2.CX P w) P w K mg base ["_law_parts", "_law_part", "_law_atom_here"] "_law_condition_text" (defScope s_law_condition_text) f cdv A outer s H E)) rfl rfl rfl rfl
    have po : PassesOwn (model P w) (cxOf (L2.CX P w) P w K mg base ["_law_parts", "_law_part", "_law_atom_here"] "_law_condition_text" (defScope s_law_condition_text) f cdv A outer s H E).A (cxOf (L2.CX P w) P w K mg base ["_law_parts", "_law_part", "_law_atom_here"] "_law_condition_text" (defScope s_law_condition_text) f cdv A outer s H E).env (cxOf (L2.CX P w) P w K mg base ["_law_parts", "_law_part", "_law_atom_here"] "_law_condition_text" (defScope s_law_condition_text) f cdv A outer s H E).xe := passes_of (X := (cxOf (L2.CX P w) P w K mg base ["_law_parts", "_law_part", "_law_atom_here"] "_law_condition_text" (defScope s_law_condition_text) f cdv A outer s H E)) rfl
    obtain ⟨W, p, ps, rfl, dp, hw, hl, hps, k⟩ := h
    have hpl : ∀ x ∈ ps, ((x.map fun a => spc (naT a)).map (·.length)).sum + (x.map fun a => spc (naT a)).length * (" and " : Str).length ≤ 2100 ∧ (spc (partT x)).length ≤ 2100 := fun x hx => by
      obtain ⟨_, h2, h3⟩ := hps x hx
      have h8 : ∀ t ∈ x.map fun a => spc (naT a), t.length ≤ 200 := fun t ht => by
        obtain ⟨a, ha, rfl⟩ := List.mem_map.mp ht
        exact na_text_len (h3 a ha)
      have a1 := sum_len_le h8
      have a2 := join_len_le " and " 200 _ h8
      rw [join_part] at a2
      rw [List.length_map] at a1 a2
      rw [List.length_map, show ((" and " : Str)).length = 5 from rfl] at *
      omega
    refine ⟨_, (pss_one (ps_ret (q_bm K PySem.F.plainAttrs_str PySem.F.slot_str_join PySem.F.type_str_join (m_join K) pe_str (pa_cons (pe_lc (own := [("_law_part", 1)]) (tt := tYes) rfl nd (q_list K (pv 0)) (blkOk_by (own := [("_law_part", 1)]) (N := ["_law_parts", "_law_part", "_law_atom_here"]) (sc := defScope s_law_condition_text) (by decide +kernel)) (fun _ _ _ _ _ => (q_name 1 nd)) (fun _ _ _ _ _ => pts_nil) (fun _ _ _ _ _ => (q_bm K PySem.F.plainAttrs_str PySem.F.slot_str_join PySem.F.type_str_join (m_join K) pe_str (pa_cons (pe_lc (own := [("_law_atom_here", 2)]) (tt := tYes) rfl nd (q_list K (pv 1)) (blkOk_by (own := [("_law_atom_here", 2)]) (by kernel_rfl)) (fun _ _ _ _ _ => (q_name 2 nd)) (fun _ _ _ _ _ => pts_nil) (fun _ _ _ _ _ => (q_call C_law_atom_text takes0 (hr.mono (by decide)) (pa_cons (pv 2) pa_nil)))) pa_nil)))) pa_nil)))), ?_⟩
    refine g_start (σ' := some _ :: none :: none :: []) rfl ?_
    walk_at "go"
    intro D hD
    refine lc_df (by walk_at "wipe") (U := []) (W := W) dp (by rw [List.length_map, sizeLine_eq]; omega) hD hw no0 (fun i acc => acc = (ps.take i).map fun p => PyData.str (spc (partT p))) (fun _ => True) (fun _ _ _ _ => trivial) trivial rfl ?_ ?_
    · rintro i x d acc H1 R N hd hacc _ e1 w1 hx yes no
      obtain ⟨pt, hpt, rfl⟩ := at_map hd
      have hpm := List.mem_of_getElem? hpt
      obtain ⟨h1, h2, h3⟩ := hps pt hpm
      obtain ⟨pa, rfl⟩ := Df.isRefL hx
      have hx : Df (D :: W) H1 (.ref pa) (.list (pt.map naD)) := hx
      walk_at "go"
      refine ⟨rfl, ?_⟩
      walk_at "go"
      intro D2 hD2
      refine lc_df (by walk_at "wipe") (U := []) (W := D :: W) hx (by rw [List.length_map, sizeLine_eq]; omega) hD2 w1 no0 (fun j acc => acc = (pt.take j).map fun a => PyData.str (spc (naT a))) (fun _ => True) (fun _ _ _ _ => trivial) trivial rfl ?_ ?_
      · rintro j y dd acc2 H2 R2 N2 hdd hacc2 _ e2 w2 hy yes2 no2
        obtain ⟨a, ha, rfl⟩ := at_map hdd
        walk_at "go"
        refine ⟨rfl, ?_⟩
        walk_at "go"
        refine ⟨D2 :: D :: W, y, a, rfl, hy, w2, h3 a (List.mem_of_getElem? ha), fun H3 e3 => ?_⟩
        exact yes2 _ _ _ e3 (.str _) trivial (by rw [hacc2, take_snoc ha])
      · rintro acc2 H2 hacc2 _ e2 d2 _
        rw [take_all rfl] at hacc2
        have hacc2 : acc2 = (pt.map fun a => spc (naT a)).map PyData.str := by rw [hacc2, List.map_map]; rfl
        subst hacc2
        walk_at "go"
        refine g_joind d2 (by have := (hpl pt hpm).1; omega) ?_
        refine yes _ _ _ (by walk_at "ed") (.str _) trivial ?_
        rw [hacc, take_snoc hpt, join_txt, join_part]
    · rintro acc H1 hacc _ e1 d1 _
      rw [take_all rfl] at hacc
      have hacc : acc = (ps.map fun p => spc (partT p)).map PyData.str := by rw [hacc, List.map_map]; rfl
      subst hacc
      walk_at "go"
      have h8 : ∀ t ∈ ps.map fun p => spc (partT p), t.length ≤ 2100 := fun t ht => by
        obtain ⟨x, hx, rfl⟩ := List.mem_map.mp ht
        exact (hpl x hx).2
      have a1 := sum_len_le h8
      have a2 := join_len_le " or " 2100 _ h8
      rw [join_cond ps fun p hp => (hps p hp).1] at a2
      rw [List.length_map] at a1 a2
      have l4 : ((" or " : Str)).length = 4 := rfl
      refine g_joind d1 (by rw [List.length_map, l4]; omega) ?_
      rw [join_txt, join_cond ps fun p hp => (hps p hp).1]
      rw [l4] at a2
      exact k H1 e1 (by omega)
end
section
variable {P : Program} {w : World} {K : PySem.W.Frag} {mg : Str → Option Value} {base : Heap}
theorem ok_law_value {f : Addr} {fd : FuncData} (F : FnP K "_law_value" "_law_value" s_law_value f fd) (T : Txt K mg)   : FnOk P w K mg base (L2.CX P w) 1 f fd ["_law_terms_here", "_law_values"] (sp_law_value K) := by
  refine F.ok sc_law_value (fun vs H Q E h => ?_) (fun cdv A outer s H vs Q E hr h => ?_)
  · obtain ⟨W, p, d, ts, kvs, val, rfl, _⟩ := h
    rfl
  · have nd := sc_law_value.nd
    have tk := takes_of (E := E) (X := (cxOf (L2.CX P w) P w K mg base ["_law_terms_here", "_law_values", "_law_total", "_law_sign", "_law_thing", "_law_each"] "_law_value" (defScope s_law_value) f cdv A outer s H E)) rfl rfl rfl rfl
    have po : PassesOwn (model P w) (cxOf (L2.CX P w) P w K mg base ["_law_terms_here", "_law_values", "_law_total", "_law_sign", "_law_thing", "_law_each"] "_law_value" (defScope s_law_value) f cdv A outer s H E).A (cxOf (L2.CX P w) P w K mg base ["_law_terms_here", "_law_values", "_law_total", "_law_sign", "_law_thing", "_law_each"] "_law_value" (defScope s_law_value) f cdv A outer s H E).env (cxOf (L2.CX P w) P w K mg base ["_law_terms_here", "_law_values", "_law_total", "_law_sign", "_law_thing", "_law_each"] "_law_value" (defScope s_law_value) f cdv A outer s H E).xe := passes_of (X := (cxOf (L2.CX P w) P w K mg base ["_law_terms_here", "_law_values", "_law_total", "_law_sign", "_law_thing", "_law_each"] "_law_value" (defScope s_law_value) f cdv A outer s H E)) rfl
    obtain ⟨W, p, d, ts, kvs, val, rfl, dp, hd, hv, k⟩ := h
    refine ⟨_, (pss_cons (q_set 2 nd pe_int) (pss_cons (ps_for po rfl (q_list K (pv 0)) (q_gtup K 2 (pgs_cons (q_name 3 nd) (pgs_cons (q_name 4 nd) pgs_nil))) (pss_cons (q_set 5 nd (pe_ifExp (q_truth K (pe_callB (cl_isinstance K) (by rfl) T.n_isinstance bt_isinstance (pa_cons (pv 4) (pa_cons (q_bltn T.n_str bt_str) pa_nil)))) (pe_dget (units1 hr.units) (pv 1) (pv 4) (fun _ _ => rfl)) (pv 4))) (pss_one (q_set 2 nd (pe_ifExp (pt_cmpR (op_dEq K hr.units) (pv 3) pe_str (nomark _)) (pe_op op_dAdd (pv 2) (pv 5)) (pe_op op_dSub (pv 2) (pv 5))))))) (pss_one (ps_ret (pv 2))))), ?_⟩
    refine g_start (σ' := some _ :: some _ :: none :: none :: none :: none :: []) rfl ?_
    walk_at "go"
    refine lp_df dp (fun i σ' H' => ∃ (u v w : Option V), σ' = [some (.ref p), some (.ref d), some (.int (sumV val (ts.take i))), u, v, w] ∧ H' = H) ⟨_, _, _, rfl, rfl⟩ (fun i σ' H' _ h => by
      obtain ⟨u, v, w, _, rfl⟩ := h
      exact Ed.refl) ?_ ?_
    · rintro i x dd σ' H1 hdd ⟨u, v, w, rfl, rfl⟩ hx
      obtain ⟨⟨f, t⟩, hτ, rfl⟩ := at_map hdd
      obtain ⟨pa, rfl⟩ := Df.isRefT hx
      obtain ⟨hf, hs⟩ := hv _ (List.mem_of_getElem? hτ)
      have hf : f = 1 ∨ f = -1 := hf
      have hnext : sumV val (ts.take (i + 1)) = sumV val (ts.take i) + f * tmV val t := by
        unfold sumV
        rw [List.take_succ, hτ]
        simp
      walk_at "go"
      refine g_gtupd hx rfl fun xs hxs => ?_
      obtain ⟨v, rfl, hv⟩ := cells2 hxs
      have hv : Df W H1 v (tmD t) := hv
      walk_at "go"
      have e1 : opT 1 = "+" := by decide +kernel
      have e2 : opT (-1) ≠ "+" := by decide +kernel
      cases t with
      | num n =>
        have hv : Df W H1 v (.int n) := hv
        obtain rfl := hv.isInt
        refine g_isi (b := false) (.ty _) (.base (.int _)) (by rfl) ?_
        walk_at "go"
        rcases hf with rfl | rfl
        · refine g_iteD (fun _ => ?_) (fun z => absurd e1 z)
          walk_at "go"
          exact ⟨_, _, _, by rw [hnext, show sumV val (ts.take i) + 1 * tmV val (.num n) = sumV val (ts.take i) + n by show _ + 1 * n = _; omega], rfl⟩
        · refine g_iteD (fun z => absurd z e2) (fun _ => ?_)
          walk_at "go"
          exact ⟨_, _, _, by rw [hnext, show sumV val (ts.take i) + -1 * tmV val (.num n) = sumV val (ts.take i) - n by show _ + -1 * n = _; omega], rfl⟩
      | nam s =>
        have hv : Df W H1 v (.str s) := hv
        obtain rfl := hv.isStr
        have hz := hs s rfl
        refine g_isi (b := true) (.ty _) (.base (.str _)) (by rfl) ?_
        walk_at "go"
        rcases hf with rfl | rfl
        · refine g_iteD (fun _ => ?_) (fun z => absurd e1 z)
          walk_at "go"
          exact ⟨_, _, _, by rw [hnext, show sumV val (ts.take i) + 1 * tmV val (.nam s) = sumV val (ts.take i) + val s by show _ + 1 * val s = _; omega], rfl⟩
        · refine g_iteD (fun z => absurd z e2) (fun _ => ?_)
          walk_at "go"
          exact ⟨_, _, _, by rw [hnext, show sumV val (ts.take i) + -1 * tmV val (.nam s) = sumV val (ts.take i) - val s by show _ + -1 * val s = _; omega], rfl⟩
    · rintro σ' H1 ⟨u, v, w, rfl, rfl⟩
      walk_at "go"
      rw [take_all rfl]
      exact k
end
section
variable {P : Program} {w : World} {K : PySem.W.Frag} {mg : Str → Option Value} {base : Heap}
theorem ok_law_compared {f : Addr} {fd : FuncData} (F : FnP K "_law_compared" "_law_compared" s_law_compared f fd) (T : Txt K mg)   : FnOk P w K mg base (L2.CX P w) 1 f fd ["_law_sign", "_law_left", "_law_right"] (sp_law_compared K) := by
  refine F.ok sc_law_compared (fun vs H Q E h => ?_) (fun cdv A outer s H vs Q E hr h => ?_)
  · obtain ⟨s, l, r, rfl, _⟩ := h
    rfl
  · have nd := sc_law_compared.nd
    have tk := takes_of (E := E) (X := (cxOf (L2.CX P w) P w K mg base ["_law_sign", "_law_left", "_law_right", "_law_due"] "_law_compared" (defScope s_law_compared) f cdv A outer s H E)) rfl rfl rfl rfl
    have po : PassesOwn (model P w) (cxOf (L2.CX P w) P w K mg base ["_law_sign", "_law_left", "_law_right", "_law_due"] "_law_compared" (defScope s_law_compared) f cdv A outer s H E).A (cxOf (L2.CX P w) P w K mg base ["_law_sign", "_law_left", "_law_right", "_law_due"] "_law_compared" (defScope s_law_compared) f cdv A outer s H E).env (cxOf (L2.CX P w) P w K mg base ["_law_sign", "_law_left", "_law_right", "_law_due"] "_law_compared" (defScope s_law_compared) f cdv A outer s H E).xe := passes_of (X := (cxOf (L2.CX P w) P w K mg base ["_law_sign", "_law_left", "_law_right", "_law_due"] "_law_compared" (defScope s_law_compared) f cdv A outer s H E)) rfl
    obtain ⟨s, l, r, rfl, hs, k⟩ := h
    refine ⟨_, (pss_cons (q_set 3 nd (pe_disp (pps_cons pe_str (pe_cmpR (op_dEq K hr.units) (pv 1) (pv 2) (nomark _)) (pps_cons pe_str (pe_cmpR (op_dNe K hr.units) (pv 1) (pv 2) (nomark _)) (pps_cons pe_str (pe_cmpR op_dLt (pv 1) (pv 2) (nomark _)) (pps_cons pe_str (pe_cmpR op_dLe (pv 1) (pv 2) (nomark _)) pps_nil)))) rfl rfl (by simp) (by decide))) (pss_one (ps_ret (pe_ifExp (pt_cmp (pc_din (units1 hr.units) (pv 0) (pv 3))) (pe_dget (units1 hr.units) (pv 3) (pv 0) (fun _ _ => rfl)) (pe_ifExp (pt_cmpR (op_dEq K hr.units) (pv 0) pe_str (nomark _)) (pe_cmpR op_dGt (pv 1) (pv 2) (nomark _)) (pe_cmpR op_dGe (pv 1) (pv 2) (nomark _))))))), ?_⟩
    refine g_start (σ' := some _ :: some _ :: some _ :: none :: []) rfl ?_
    walk_at "go"
    intro p H0 hp e0 g0
    walk_at "go"
    refine ⟨g0, (cmpK l r), rfl, Nat.le_of_ble_eq_true rfl, ?_⟩
    generalize hH1 : upd H0 p _ = H1
    obtain ⟨e1, dp⟩ := new_d (W := []) hH1 (by walk_at "wl") hp
    clear hH1
    have e2 : Ed [] H H1 := by walk_at "ed"
    walk_at "go"
    rcases cmpK_val hs l r with hv | ⟨hv, hc⟩
    · refine g_dind dp hv ?_
      walk_at "go"
      refine g_iteT rfl ?_
      walk_at "go"
      exact k H1 e2
    · refine g_dind dp hv ?_
      walk_at "go"
      refine g_iteF rfl ?_
      walk_at "go"
      rcases hc with ⟨rfl, hc⟩ | ⟨rfl, hc⟩
      · refine g_iteD (fun _ => ?_) (fun z => absurd rfl z)
        walk_at "go"
        exact k_of (k H1 e2) hc
      · refine g_iteD (fun z => absurd z (by decide +kernel)) (fun _ => ?_)
        walk_at "go"
        exact k_of (k H1 e2) hc
end
section
variable {P : Program} {w : World} {K : PySem.W.Frag} {mg : Str → Option Value} {base : Heap}
theorem ok_law_atom_holds {f : Addr} {fd : FuncData} (F : FnP K "_law_atom_holds" "_law_atom_holds" s_law_atom_holds f fd) (T : Txt K mg) (C_law_compared : Cal P w K mg base 1 "_law_compared" ["_law_sign", "_law_left", "_law_right"] (sp_law_compared K)) (C_law_value : Cal P w K mg base 1 "_law_value" ["_law_terms_here", "_law_values"] (sp_law_value K))  : FnOk P w K mg base (L2.CX P w) 2 f fd ["_law_atom_here", "_law_values", "_law_handles", "_law_opened"] (sp_law_atom_holds K) := by
  refine F.ok sc_law_atom_holds (fun vs H Q E h => ?_) (fun cdv A outer s H vs Q E hr h => ?_)
  · obtain ⟨W, v, d, e, o, a, kvs, hvs, q, rfl, _⟩ := h
    rfl
  · have nd := sc_law_atom_holds.nd
    have tk := takes_of (E := E) (X := (cxOf (L2.CX P w) P w K mg base ["_law_atom_here", "_law_values", "_law_handles", "_law_opened", "_law_nots", "_law_word", "_law_left", "_law_right", "_law_found"] "_law_atom_holds" (defScope s_law_atom_holds) f cdv A outer s H E)) rfl rfl rfl rfl
    have po : PassesOwn (model P w) (cxOf (L2.CX P w) P w K mg base ["_law_atom_here", "_law_values", "_law_handles", "_law_opened", "_law_nots", "_law_word", "_law_left", "_law_right", "_law_found"] "_law_atom_holds" (defScope s_law_atom_holds) f cdv A outer s H E).A (cxOf (L2.CX P w) P w K mg base ["_law_atom_here", "_law_values", "_law_handles", "_law_opened", "_law_nots", "_law_word", "_law_left", "_law_right", "_law_found"] "_law_atom_holds" (defScope s_law_atom_holds) f cdv A outer s H E).env (cxOf (L2.CX P w) P w K mg base ["_law_atom_here", "_law_values", "_law_handles", "_law_opened", "_law_nots", "_law_word", "_law_left", "_law_right", "_law_found"] "_law_atom_holds" (defScope s_law_atom_holds) f cdv A outer s H E).xe := passes_of (X := (cxOf (L2.CX P w) P w K mg base ["_law_atom_here", "_law_values", "_law_handles", "_law_opened", "_law_nots", "_law_word", "_law_left", "_law_right", "_law_found"] "_law_atom_holds" (defScope s_law_atom_holds) f cdv A outer s H E)) rfl
    obtain ⟨W, v, d, e, o, ⟨n, a⟩, kvs, hvs, q, rfl, dv, hw, hd, he, ho, hok, hsg, k⟩ := h
    have hsg : a.sign = decide (n % 2 = 0) := hsg
    have ho' : SqL K H o (q.op.map V.str) ∨ SqT K H o (q.op.map V.str) := .inl ho
    refine ⟨_, (pss_cons (ps_asg (pv 0) (q_gtup K 4 (pgs_cons (q_name 4 nd) (pgs_cons (q_name 5 nd) (pgs_cons (q_name 6 nd) (pgs_cons (q_name 7 nd) pgs_nil)))))) (pss_cut (ps_if (pt_cmpR (op_dEq K hr.units) (pv 5) pe_str (nomark _)) (pss_one (q_set 8 nd (pe_cmpR op_dIs (pe_dget (units1 hr.units) (pv 2) (pv 6) (fun _ _ => rfl)) pe_non (nomark _)))) (pss_one (ps_if (pt_cmpR (op_dEq K hr.units) (pv 5) pe_str (nomark _)) (pss_one (q_set 8 nd (pe_cmpR (op_dNotIn K) (pe_dget (units1 hr.units) (pv 2) (pv 6) (fun _ _ => rfl)) (pe_lst (pa_cons pe_non (pa_cons pe_str pa_nil))) (by rfl)))) (pss_one (ps_if (pt_cmpR (op_dEq K hr.units) (pv 5) pe_str (nomark _)) (pss_one (q_set 8 nd (pe_cmpR (op_dIn K) (pv 6) (pv 3) (by rfl)))) (pss_one (q_set 8 nd (q_call C_law_compared tk (hr.mono (by decide)) (pa_cons (pv 5) (pa_cons (q_call C_law_value tk (hr.mono (by decide)) (pa_cons (pv 6) (pa_cons (pv 1) pa_nil))) (pa_cons (q_call C_law_value tk (hr.mono (by decide)) (pa_cons (pv 7) (pa_cons (pv 1) pa_nil))) pa_nil))))))))))) (pss_one (ps_ret (pe_cmpR (op_dEq K hr.units) (pv 8) (pe_cmpR (op_dEq K hr.units) (pe_op op_dMod (pv 4) pe_int) pe_int (nomark _)) (nomark _)))))), ?_⟩
    refine g_start (σ' := some _ :: some _ :: some _ :: some _ :: none :: none :: none :: none :: none :: []) rfl ?_
    cases a with
    | word b w x =>
      have hsg : b = decide (n % 2 = 0) := hsg
      obtain ⟨t, rfl⟩ := Df.isRefT dv
      obtain ⟨hw3, hx⟩ := hok
      walk_at "go"
      refine g_gtupd dv rfl fun xs hxs => ?_
      obtain ⟨v1, v2, rfl, d1, d2⟩ := cells4 hxs
      obtain rfl := d1.isStr
      walk_at "go"
      refine g_cut (fun σ' H' => ∃ f : Bool, σ' = [some (.ref t), some (.ref d), some (.ref e), some (.ref o), some (.int (n : Nat)), some (.str w), some (.str x), some v2, some (.bl f)] ∧ Ed [] H H' ∧ atomV q (.word b w x) = decide (f = b)) (fun R hR => ?_) ?_
      · walk_at "go"
        refine g_iteD (fun e1 => ?_) (fun e1 => ?_)
        · subst e1
          have hx := hx (by decide +kernel)
          walk_at "go"
          refine hR _ _ ⟨_, rfl, Ed.refl, ?_⟩
          rw [av_none]
          congr 1
          cases q.st x <;> simp [stV]
        walk_at "go"
        refine g_iteD (fun e2 => ?_) (fun e2 => ?_)
        · subst e2
          have hx := hx (by decide +kernel)
          walk_at "go"
          refine al fun l1 hl1 => ?_
          generalize hH1 : upd H l1 _ = H1
          obtain ⟨e1', dl1⟩ := new_l (W := W) hH1 hl1 (by walk_at "dfs") (by walk_at "wl")
          clear hH1
          have hfl : flatV (stV (q.st x)) = true := by cases q.st x <;> rfl
          obtain ⟨ys, _, hl1c, hys⟩ := dl1.cells
          refine g_ninL (xs := [.non, .str "over"]) (Or.inl (SqL.of ?_)) hfl rfl ?_
          · cases hys with
            | cons h1 r =>
              cases r with
              | cons h2 r =>
                cases r
                cases h1
                cases h2
                exact hl1c
          walk_at "go"
          refine hR _ _ ⟨_, rfl, e1', ?_⟩
          rw [av_live]
          congr 1
          cases hst : q.st x with
          | none => rfl
          | some z =>
            have e9 : inV (V.str z) [.non, .str "over"] = decide (z = "over") := by
              show (false || ((("over" : Str) == z) || false)) = _
              by_cases h : z = "over"
              · subst h; decide +kernel
              · rw [decide_eq_false h]
                simp only [Bool.or_false, Bool.false_or]
                exact beq_eq_false_iff_ne.mpr fun q => h q.symm
            show ((!decide (z = "over")) = b) = ((!inV (V.str z) [.non, .str "over"]) = b)
            rw [e9]
        walk_at "go"
        refine g_iteD (fun e3 => ?_) (fun e3 => ?_)
        · walk_at "go"
          exact hR _ _ ⟨_, rfl, Ed.refl, av_open e1 e2⟩
        · exfalso
          simp only [List.mem_cons, List.not_mem_nil, or_false] at hw3
          exact hw3.elim e1 fun z => z.elim e2 e3
      · rintro σ' H1 ⟨f, rfl, e1, hf⟩
        walk_at "go"
        refine k_of (k H1 e1) ?_
        rw [hf, hsg]
        congr 1
        rw [show decide ((n : Int) % 2 = 0) = decide (n % 2 = 0) by rw [Bool.eq_iff_iff]; simp; omega]
    | cmp b s l r =>
      have hsg : b = decide (n % 2 = 0) := hsg
      obtain ⟨t, rfl⟩ := Df.isRefT dv
      obtain ⟨hs, hl, hr⟩ := hok
      obtain ⟨m1, m2, m3⟩ := not_kw hs
      walk_at "go"
      refine g_gtupd dv rfl fun xs hxs => ?_
      obtain ⟨v1, v2, rfl, d1, d2⟩ := cells4 hxs
      obtain ⟨p1, rfl⟩ := Df.isRefL d1
      obtain ⟨p2, rfl⟩ := Df.isRefL d2
      walk_at "go"
      refine g_cut (fun σ' H' => ∃ f : Bool, σ' = [some (.ref t), some (.ref d), some (.ref e), some (.ref o), some (.int (n : Nat)), some (.str s), some (.ref p1), some (.ref p2), some (.bl f)] ∧ Ed [] H H' ∧ atomV q (.cmp b s l r) = decide (f = b)) (fun R hR => ?_) ?_
      · walk_at "go"
        refine g_iteD (fun z => absurd z m1) (fun _ => ?_)
        walk_at "go"
        refine g_iteD (fun z => absurd z m2) (fun _ => ?_)
        walk_at "go"
        refine g_iteD (fun z => absurd z m3) (fun _ => ?_)
        walk_at "go"
        refine ⟨W, p1, d, l, kvs, q.val, rfl, d1, hd, hl, ?_⟩
        walk_at "go"
        refine ⟨W, p2, d, r, kvs, q.val, rfl, d2, hd, hr, ?_⟩
        walk_at "go"
        refine ⟨s, _, _, rfl, hs, fun H1 e1 => ?_⟩
        walk_at "go"
        exact hR _ _ ⟨_, rfl, e1, rfl⟩
      · rintro σ' H1 ⟨f, rfl, e1, hf⟩
        walk_at "go"
        refine k_of (k H1 e1) ?_
        rw [hf, hsg]
        congr 1
        rw [show decide ((n : Int) % 2 = 0) = decide (n % 2 = 0) by rw [Bool.eq_iff_iff]; simp; omega]
end
section
variable {P : Program} {w : World} {K : PySem.W.Frag} {mg : Str → Option Value} {base : Heap}
theorem ok_law_holds {f : Addr} {fd : FuncData} (F : FnP K "_law_holds" "_law_holds" s_law_holds f fd) (T : Txt K mg) (C_law_atom_holds : Cal P w K mg base 2 "_law_atom_holds" ["_law_atom_here", "_law_values", "_law_handles", "_law_opened"] (sp_law_atom_holds K))  : FnOk P w K mg base (L2.CX P w) 3 f fd ["_law_parts", "_law_values", "_law_handles", "_law_opened"] (sp_law_holds K) := by
  refine F.ok sc_law_holds (fun vs H Q E h => ?_) (fun cdv A outer s H vs Q E hr h => ?_)
  · obtain ⟨W, p, d, e, o, ps, kvs, hvs, q, rfl, _⟩ := h
    rfl
  · have nd := sc_law_holds.nd
    have tk := takes_of (E := E) (X := (cxOf (L2.CX P w) P w K mg base ["_law_parts", "_law_values", "_law_handles", "_law_opened", "_law_part", "_law_atom_here"] "_law_holds" (defScope s_law_holds) f cdv A outer s H E)) rfl rfl rfl rfl
    have po : PassesOwn (model P w) (cxOf (L2.CX P w) P w K mg base ["_law_parts", "_law_values", "_law_handles", "_law_opened", "_law_part", "_law_atom_here"] "_law_holds" (defScope s_law_holds) f cdv A outer s H E).A (cxOf (L2.CX P w) P w K mg base ["_law_parts", "_law_values", "_law_handles", "_law_opened", "_law_part", "_law_atom_here"] "_law_holds" (defScope s_law_holds) f cdv A outer s H E).env (cxOf (L2.CX P w) P w K mg base ["_law_parts", "_law_values", "_law_handles", "_law_opened", "_law_part", "_law_atom_here"] "_law_holds" (defScope s_law_holds) f cdv A outer s H E).xe := passes_of (X := (cxOf (L2.CX P w) P w K mg base ["_law_parts", "_law_values", "_law_handles", "_law_opened", "_law_part", "_law_atom_here"] "_law_holds" (defScope s_law_holds) f cdv A outer s H E)) rfl
    obtain ⟨W, p, d, e, o, ps, kvs, hvs, q, rfl, dp, hw, hd, he, ho, hps, k⟩ := h
    refine ⟨_, (pss_cons (ps_for po rfl (q_list K (pv 0)) (q_name 4 nd) (pss_one (ps_if (pt_cmpR (op_dEq K hr.units) (pe_lc (own := [("_law_atom_here", 5)]) rfl nd (q_list K (pv 4)) (blkOk_by (own := [("_law_atom_here", 5)]) (N := ["_law_parts", "_law_values", "_law_handles", "_law_opened", "_law_part", "_law_atom_here"]) (sc := defScope s_law_holds) (by decide +kernel)) (fun _ _ _ _ _ => (q_name 5 nd)) (fun _ _ _ _ _ => (pts_one (pt_not (q_truth K (q_call C_law_atom_holds takes0 (hr.mono (by decide)) (pa_cons (pv 5) (pa_cons (pv 1) (pa_cons (pv 2) (pa_cons (pv 3) pa_nil))))))))) (fun _ _ _ _ _ => (pv 5))) (pe_lst pa_nil) (nomark _)) (pss_one (ps_ret pe_bl)) pss_nil))) (pss_one (ps_ret pe_bl))), ?_⟩
    refine g_start (σ' := some _ :: some _ :: some _ :: some _ :: none :: none :: []) rfl ?_
    walk_at "go"
    refine lp_df dp (fun i σ' H' => ∃ (u v : Option V), σ' = [some (.ref p), some (.ref d), some (.ref e), some (.ref o), u, v] ∧ Ed [] H H' ∧ (ps.take i).any (fun x => x.all fun a => atomV q a.2) = false) ⟨_, _, rfl, Ed.refl, by simp⟩ (fun i σ' H' _ h => by
      obtain ⟨u, v, _, h, _⟩ := h
      exact h.weak no0) ?_ ?_
    · rintro i x dd σ' H1 hdd ⟨u, v, rfl, e1, hany⟩ hx
      obtain ⟨pt, hpt, rfl⟩ := at_map hdd
      obtain ⟨hl, hal⟩ := hps pt (List.mem_of_getElem? hpt)
      obtain ⟨pa, rfl⟩ := Df.isRefL hx
      have hx : Df W H1 (.ref pa) (.list (pt.map naD)) := hx
      have w1 := hw.ed e1
      walk_at "go"
      intro D hD
      refine lc_df (by walk_at "wipe") (U := []) (W := W) hx (by rw [List.length_map, sizeLine_eq]; omega) hD w1 no0 (fun j acc => acc = ((pt.take j).filter fun a => !atomV q a.2).map naD) (fun _ => True) (fun _ _ _ _ => trivial) trivial rfl ?_ ?_
      · rintro j y dd acc H2 R N hdd hacc _ e2 w2 hy yes no
        obtain ⟨a, ha, rfl⟩ := at_map hdd
        obtain ⟨h1, h2, _⟩ := hal a (List.mem_of_getElem? ha)
        have e12 : Ed [] H H2 := by walk_at "ed"
        walk_at "go"
        refine ⟨rfl, ?_⟩
        walk_at "go"
        refine ⟨D :: W, y, d, e, o, a, kvs, hvs, q, rfl, hy, w2, e12.get List.not_mem_nil hd, e12.get List.not_mem_nil he, sqL_same ho e12.same', h1, h2, fun H3 e3 => ?_⟩
        clear e12
        walk_at "go"
        refine g_ite (fun hz => ?_) (fun hz => ?_)
        · walk_at "go"
          exact yes _ _ _ e3 (by walk_at "df") trivial (by rw [hacc, filter_yes ha hz, List.map_append]; rfl)
        · exact no _ e3 trivial (by rw [hacc, filter_no ha hz])
      · rintro acc H2 hacc _ e2 d2 _
        rw [take_all rfl] at hacc
        subst hacc
        walk_at "go"
        refine al fun nl hnl => ?_
        generalize hH3 : upd H2 nl _ = H3
        obtain ⟨e3, dnl⟩ := new_l (W := W) hH3 hnl (by walk_at "dfs") (by walk_at "wl")
        clear hH3
        refine g_eqd (W := W) (by walk_at "df") dnl ((Sd.list (n := 5) (Sd.map fun a ha => (hal a (List.mem_filter.mp ha).1).2.2)).sh (by decide)) Sh.nil ?_
        rw [eqv_nil]
        have e13 : Ed [] H H3 := by walk_at "ed"
        have hns := none_left (q := q) pt
        rw [hns]
        walk_at "go"
        refine g_ite (fun hz => ?_) (fun hz => ?_)
        · walk_at "go"
          refine k_of (k H3 e13) ?_
          unfold condV valC
          rw [List.any_map, List.any_eq_true]
          exact ⟨pt, List.mem_of_getElem? hpt, by show (pt.map Prod.snd).all (atomV q) = true; rw [List.all_map]; exact hz⟩
        · walk_at "go"
          refine ⟨_, _, rfl, e13, ?_⟩
          rw [List.take_succ, hpt, List.any_append, hany]
          simp [hz]
    · rintro σ' H1 ⟨u, v, rfl, e1, hany⟩
      walk_at "go"
      refine k_of (k H1 e1) ?_
      rw [take_all rfl] at hany
      unfold condV valC
      rw [List.any_map, ← hany]
      congr 1
      funext x
      show (x.map Prod.snd).all (atomV q) = _
      rw [List.all_map]
      rfl
end
section
variable {P : Program} {w : World} {K : PySem.W.Frag} {mg : Str → Option Value} {base : Heap}
theorem ok_Condition___str__ {f : Addr} {fd : FuncData} (F : FnP K "__str__" "Condition.__str__" s_Condition___str__ f fd) (T : Txt K mg)   : FnOk P w K mg base (L2.CX P w) 1 f fd ["self"] (sp_Condition___str__ K) := by
  refine F.ok sc_Condition___str__ (fun vs H Q E h => ?_) (fun cdv A outer s H vs Q E hr h => ?_)
  · obtain ⟨x, dx, l, s, rfl, _⟩ := h
    rfl
  · have nd := sc_Condition___str__.nd
    have tk := takes_of (E := E) (X := (cxOf (L2.CX P w) P w K mg base ["self"] "Condition.__str__" (defScope s_Condition___str__) f cdv A outer s H E)) rfl rfl rfl rfl
    have po : PassesOwn (model P w) (cxOf (L2.CX P w) P w K mg base ["self"] "Condition.__str__" (defScope s_Condition___str__) f cdv A outer s H E).A (cxOf (L2.CX P w) P w K mg base ["self"] "Condition.__str__" (defScope s_Condition___str__) f cdv A outer s H E).env (cxOf (L2.CX P w) P w K mg base ["self"] "Condition.__str__" (defScope s_Condition___str__) f cdv A outer s H E).xe := passes_of (X := (cxOf (L2.CX P w) P w K mg base ["self"] "Condition.__str__" (defScope s_Condition___str__) f cdv A outer s H E)) rfl
    have cC := T.c_Condition
    have aP := T.a_Condition_parts
    have aS := T.a_Condition_shown
    obtain ⟨x, dx, l, s, rfl, hx, k⟩ := h
    refine ⟨_, (pss_one (ps_ret (pe_callTy cl_str (by rfl) T.n_str bt_str (pa_cons (q_fld K (pv 0)) pa_nil)))), ?_⟩
    refine g_start (σ' := some _ :: []) rfl ?_
    walk_at "go"
    exact k
end
section
variable {P : Program} {w : World} {K : PySem.W.Frag} {mg : Str → Option Value} {base : Heap}
theorem ok_law {f : Addr} {fd : FuncData} (F : FnP K "law" "law" s_law f fd) (T : Txt K mg) (C_law_condition : Cal P w K mg base 5 "_law_condition" ["_law_bag", "_law_names_here", "_law_handles", "_law_requests", "_law_most"] (sp_law_condition K)) (C_law_condition_text : Cal P w K mg base 3 "_law_condition_text" ["_law_parts"] (sp_law_condition_text K)) (C_law_holds : Cal P w K mg base 3 "_law_holds" ["_law_parts", "_law_values", "_law_handles", "_law_opened"] (sp_law_holds K)) (C_law_names : Cal P w K mg base 3 "_law_names" ["_law_bag", "_law_many"] (sp_law_names K)) (C_law_of : Cal P w K mg base 2 "_law_of" ["_law_bag", "_law_some"] (sp_law_of K)) (C_law_seed : Cal P w K mg base 1 "_law_seed" ["_law_script", "_law_at"] (sp_law_seed K)) (C_law_take : Cal P w K mg base 1 "_law_take" ["_law_bag", "_law_many"] (sp_law_take K)) (N_Condition___call__ : MtC P w K mg base 3 (He.ga K "Condition") "__call__" ["self", "values", "handles", "opened"] (sp_Condition___call__ K)) (M_Condition : MkC P w K mg base 7 "Condition" (He.ga K "Condition") ["self", "text", "names", "handles", "requests"] (sp_Condition___init__ K)) (R_law_of : OfC P w K mg base 2 "_law_of") (N_Condition___str__ : MtC P w K mg base 1 (He.ga K "Condition") "__str__" ["self"] (sp_Condition___str__ K))  : FnOk P w K mg base (L2.CX P w) 9 f fd ["_law_script"] (sp_law K) := by
  refine F.ok sc_law (fun vs H Q E h => ?_) (fun cdv A outer s H vs Q E hr h => ?_)
  · obtain ⟨a, ns, rfl, _⟩ := h
    rfl
  · have nd := sc_law.nd
    have tk := takes_of (E := E) (X := (cxOf (L2.CX P w) P w K mg base ["_law_script", "_law_at", "_law_bag", "_law_words", "_law_names_here", "_law_handles", "_law_requests", "_law_parts", "_law_text", "_law_blanks", "_law_lists", "_law_condition_here", "_law_turn", "_law_size", "_law_values", "_law_stored", "_law_name", "_law_each", "_law_opened", "_law_kept", "_law_handed", "_law_told"] "law" (defScope s_law) f cdv A outer s H E)) rfl rfl rfl rfl
    have po : PassesOwn (model P w) (cxOf (L2.CX P w) P w K mg base ["_law_script", "_law_at", "_law_bag", "_law_words", "_law_names_here", "_law_handles", "_law_requests", "_law_parts", "_law_text", "_law_blanks", "_law_lists", "_law_condition_here", "_law_turn", "_law_size", "_law_values", "_law_stored", "_law_name", "_law_each", "_law_opened", "_law_kept", "_law_handed", "_law_told"] "law" (defScope s_law) f cdv A outer s H E).A (cxOf (L2.CX P w) P w K mg base ["_law_script", "_law_at", "_law_bag", "_law_words", "_law_names_here", "_law_handles", "_law_requests", "_law_parts", "_law_text", "_law_blanks", "_law_lists", "_law_condition_here", "_law_turn", "_law_size", "_law_values", "_law_stored", "_law_name", "_law_each", "_law_opened", "_law_kept", "_law_handed", "_law_told"] "law" (defScope s_law) f cdv A outer s H E).env (cxOf (L2.CX P w) P w K mg base ["_law_script", "_law_at", "_law_bag", "_law_words", "_law_names_here", "_law_handles", "_law_requests", "_law_parts", "_law_text", "_law_blanks", "_law_lists", "_law_condition_here", "_law_turn", "_law_size", "_law_values", "_law_stored", "_law_name", "_law_each", "_law_opened", "_law_kept", "_law_handed", "_law_told"] "law" (defScope s_law) f cdv A outer s H E).xe := passes_of (X := (cxOf (L2.CX P w) P w K mg base ["_law_script", "_law_at", "_law_bag", "_law_words", "_law_names_here", "_law_handles", "_law_requests", "_law_parts", "_law_text", "_law_blanks", "_law_lists", "_law_condition_here", "_law_turn", "_law_size", "_law_values", "_law_stored", "_law_name", "_law_each", "_law_opened", "_law_kept", "_law_handed", "_law_told"] "law" (defScope s_law) f cdv A outer s H E)) rfl
    obtain ⟨a, ns, rfl, hS, hl, hbits, k⟩ := h
    refine ⟨_, (pss_cons (ps_for po rfl (pi_range1 rfl T.n_range (pa_cons (pe_callB (cl_max rfl) (by rfl) T.n_max bt_max (pa_cons pe_int (pa_cons (pe_callB (cl_min rfl) (by rfl) T.n_min bt_min (pa_cons pe_int (pa_cons (pe_callB (cl_len K) (by rfl) T.n_len bt_len (pa_cons (pv 0) pa_nil)) pa_nil))) pa_nil))) pa_nil)) (q_name 1 nd) (pss_cons (q_set 2 nd (q_call C_law_seed tk (hr.mono (by decide)) (pa_cons (pv 0) (pa_cons (pv 1) pa_nil)))) (pss_cons (q_set 3 nd (q_call C_law_names tk (hr.mono (by decide)) (pa_cons (pv 2) (pa_cons pe_int pa_nil)))) (pss_cons (ps_par3 (i := 4) (j := 5) (l := 6) (by rfl) nd rfl rfl rfl (by decide) (by decide) (by decide) rfl rfl rfl (pa_cons (pe_slice (sl_dyn K) (pv 3) po_none (po_some (pe_op op_dAdd pe_int (q_call C_law_take tk (hr.mono (by decide)) (pa_cons (pv 2) (pa_cons pe_int pa_nil)))))) (pa_cons (pe_slice (sl_dyn K) (pv 3) (po_some pe_int) (po_some pe_int)) (pa_cons (pe_slice (sl_dyn K) (pv 3) (po_some pe_int) po_none) pa_nil))) (by rfl)) (pss_cons (q_set 7 nd (q_call C_law_condition tk (hr.mono (by decide)) (pa_cons (pv 2) (pa_cons (pv 4) (pa_cons (pv 5) (pa_cons (pv 6) (pa_cons pe_int pa_nil))))))) (pss_cut (q_set 7 nd (pe_ifExp (pt_cmpR op_dLe (pe_callB (cl_len K) (by rfl) T.n_len bt_len (pa_cons (q_bm K PySem.F.plainAttrs_str PySem.F.slot_str_split PySem.F.type_str_split m_split (q_call C_law_condition_text tk (hr.mono (by decide)) (pa_cons (pv 7) pa_nil)) (pa_cons pe_str pa_nil)) pa_nil)) pe_int (nomark _)) (pv 7) (pe_slice (sl_dyn K) (pv 7) po_none (po_some pe_int)))) (pss_tok (i := 8) (q_call C_law_condition_text tk (hr.mono (by decide)) (pa_cons (pv 7) pa_nil)) nd (psr_ofC (ib := 2) (i := 9) R_law_of tk (hr.mono (by decide)) nd (pac_cons (pac_cons pac_nil)) (psr_keep (i := 10) (pek_lst (pak_cons (pek_list K (pek_name (i := 4)) (by rfl) T.n_list) (pak_cons (pek_list K (pek_name (i := 5)) (by rfl) T.n_list) (pak_cons (pek_list K (pek_name (i := 6)) (by rfl) T.n_list) pak_nil)))) nd (psr_use (i := 11) (per_make M_Condition tk (hr.mono (by decide)) (par_here (per_repl (i := 8) (j := 9) T.nob) (pa_cons (pe_ix (ix_dyn K) (pv 10) pe_int (fun _ _ => rfl)) (pa_cons (pe_ix (ix_dyn K) (pv 10) pe_int (fun _ _ => rfl)) (pa_cons (pe_ix (ix_dyn K) (pv 10) pe_int (fun _ _ => rfl)) pa_nil))))) nd (pss_cut (ps_if (PW.pt (pw_or (pt_cmpR (op_dNe K hr.units) (pv 10) (pe_lst (pa_cons (pv 4) (pa_cons (pv 5) (pa_cons (pv 6) pa_nil)))) (nomark _)) (pw_or1 (pt_cmpR (op_dNe K hr.units) (q_strO N_Condition___str__ tk (hr.mono (by decide)) (pv 11) T.n_str) (pv 8) (nomark _))))) (pss_one (ps_ret pe_bl)) pss_nil) (pss_cons (ps_expr (q_bm0 K PySem.F.plainAttrs_list PySem.F.slot_list_clear PySem.F.type_list_clear m_clear (pe_ix (ix_dyn K) (pv 10) pe_int (fun _ _ => rfl)))) (pss_one (ps_for po rfl (pi_range1 rfl T.n_range (pa_cons pe_int pa_nil)) (q_name 12 nd) (pss_cons (q_set 13 nd (q_call C_law_of tk (hr.mono (by decide)) (pa_cons (pv 2) (pa_cons (pe_lst (pa_cons pe_int (pa_cons pe_int (pa_cons (pe_op op_dPow pe_int pe_int) pa_nil)))) pa_nil)))) (pss_cons (ps_asg (pe_tup (pa_cons pe_dnewK (pa_cons pe_dnewK pa_nil))) (q_gtup K 2 (pgs_cons (q_name 14 nd) (pgs_cons (q_name 15 nd) pgs_nil)))) (pss_cons (ps_for po rfl (q_list K (pv 4)) (q_name 16 nd) (pss_cons (q_set 17 nd (q_call C_law_take tk (hr.mono (by decide)) (pa_cons (pv 2) (pa_cons (pv 13) pa_nil)))) (pss_one (ps_dput (units1 hr.units) (pv 14) (pv 16) (pe_ifExp (pt_cmpR (op_dEq K hr.units) (q_call C_law_take tk (hr.mono (by decide)) (pa_cons (pv 2) (pa_cons pe_int pa_nil))) pe_int (nomark _)) (pe_un un_neg (pv 17)) (pv 17)) rfl)))) (pss_cons (ps_for po rfl (q_list K (pv 5)) (q_name 16 nd) (pss_one (ps_dput (units1 hr.units) (pv 15) (pv 16) (q_call C_law_of tk (hr.mono (by decide)) (pa_cons (pv 2) (pa_cons (pe_lst (pa_cons pe_non (pa_cons pe_str (pa_cons (pe_ix (ix_dyn K) (pv 6) pe_int (fun _ _ => rfl)) (pa_cons (pe_ix (ix_dyn K) (pv 6) pe_int (fun _ _ => rfl)) pa_nil))))) pa_nil))) rfl))) (pss_cons (ps_setLc (i := 18) (own := [("_law_name", 16)]) rfl nd rfl rfl (sw_true rfl rfl rfl (by decide +kernel)) (q_list K (pv 6)) (blkOk_by (own := [("_law_name", 16)]) (N := ["_law_script", "_law_at", "_law_bag", "_law_words", "_law_names_here", "_law_handles", "_law_requests", "_law_parts", "_law_text", "_law_blanks", "_law_lists", "_law_condition_here", "_law_turn", "_law_size", "_law_values", "_law_stored", "_law_name", "_law_each", "_law_opened", "_law_kept", "_law_handed", "_law_told"]) (sc := defScope s_law) (by decide +kernel)) (fun _ _ _ _ _ => (q_name 16 nd)) (fun _ _ _ _ _ => (pts_one (pt_cmpR (op_dEq K hr.units) (q_call C_law_take takes0 (hr.mono (by decide)) (pa_cons (pv 2) (pa_cons pe_int pa_nil))) pe_int (nomark _)))) (fun _ _ _ _ _ => (pv 16))) (pss_cons (q_set 19 nd (pe_op op_dAdd (pe_lc (own := [("_law_name", 16)]) (tt := tYes) rfl nd (q_list K (pv 4)) (blkOk_by (own := [("_law_name", 16)]) (N := ["_law_script", "_law_at", "_law_bag", "_law_words", "_law_names_here", "_law_handles", "_law_requests", "_law_parts", "_law_text", "_law_blanks", "_law_lists", "_law_condition_here", "_law_turn", "_law_size", "_law_values", "_law_stored", "_law_name", "_law_each", "_law_opened", "_law_kept", "_law_handed", "_law_told"]) (sc := defScope s_law) (by decide +kernel)) (fun _ _ _ _ _ => (q_name 16 nd)) (fun _ _ _ _ _ => pts_nil) (fun _ _ _ _ _ => (pe_tup (pa_cons (pv 16) (pa_cons (pe_dget (units1 hr.units) (pv 14) (pv 16) (fun _ _ => rfl)) pa_nil))))) (pe_lc (own := [("_law_name", 16)]) (tt := tYes) rfl nd (q_list K (pv 5)) (blkOk_by (own := [("_law_name", 16)]) (N := ["_law_script", "_law_at", "_law_bag", "_law_words", "_law_names_here", "_law_handles", "_law_requests", "_law_parts", "_law_text", "_law_blanks", "_law_lists", "_law_condition_here", "_law_turn", "_law_size", "_law_values", "_law_stored", "_law_name", "_law_each", "_law_opened", "_law_kept", "_law_handed", "_law_told"]) (sc := defScope s_law) (by decide +kernel)) (fun _ _ _ _ _ => (q_name 16 nd)) (fun _ _ _ _ _ => pts_nil) (fun _ _ _ _ _ => (pe_tup (pa_cons (pv 16) (pa_cons (pe_dget (units1 hr.units) (pv 15) (pv 16) (fun _ _ => rfl)) pa_nil))))))) (pss_cons (q_set 20 nd (pe_op op_dAdd (pv 18) (pe_lst pa_nil))) (pss_cons (q_set 21 nd (q_callO N_Condition___call__ tk (hr.mono (by decide)) (pv 11) (pa_cons (pv 14) (pa_cons (pv 15) (pa_cons (pv 20) pa_nil))))) (pss_cut (ps_if (PW.pt (pw_or (pt_not (q_truth K (pe_callB (cl_isinstance K) (by rfl) T.n_isinstance bt_isinstance (pa_cons (pv 21) (pa_cons (q_bltn T.n_bool bt_bool) pa_nil))))) (pw_or (pt_cmpR (op_dNe K hr.units) (pv 21) (q_call C_law_holds tk (hr.mono (by decide)) (pa_cons (pv 7) (pa_cons (pv 14) (pa_cons (pv 15) (pa_cons (pv 18) pa_nil))))) (nomark _)) (pw_or1 (pt_cmpR (op_dNe K hr.units) (pv 20) (pv 18) (nomark _)))))) (pss_one (ps_ret pe_bl)) pss_nil) (pss_one (ps_if (pt_cmpR (op_dNe K hr.units) (pe_op op_dAdd (pe_lc (own := [("_law_name", 16)]) (tt := tYes) rfl nd (q_list K (pv 4)) (blkOk_by (own := [("_law_name", 16)]) (N := ["_law_script", "_law_at", "_law_bag", "_law_words", "_law_names_here", "_law_handles", "_law_requests", "_law_parts", "_law_text", "_law_blanks", "_law_lists", "_law_condition_here", "_law_turn", "_law_size", "_law_values", "_law_stored", "_law_name", "_law_each", "_law_opened", "_law_kept", "_law_handed", "_law_told"]) (sc := defScope s_law) (by decide +kernel)) (fun _ _ _ _ _ => (q_name 16 nd)) (fun _ _ _ _ _ => pts_nil) (fun _ _ _ _ _ => (pe_tup (pa_cons (pv 16) (pa_cons (pe_dget (units1 hr.units) (pv 14) (pv 16) (fun _ _ => rfl)) pa_nil))))) (pe_lc (own := [("_law_name", 16)]) (tt := tYes) rfl nd (q_list K (pv 5)) (blkOk_by (own := [("_law_name", 16)]) (N := ["_law_script", "_law_at", "_law_bag", "_law_words", "_law_names_here", "_law_handles", "_law_requests", "_law_parts", "_law_text", "_law_blanks", "_law_lists", "_law_condition_here", "_law_turn", "_law_size", "_law_values", "_law_stored", "_law_name", "_law_each", "_law_opened", "_law_kept", "_law_handed", "_law_told"]) (sc := defScope s_law) (by decide +kernel)) (fun _ _ _ _ _ => (q_name 16 nd)) (fun _ _ _ _ _ => pts_nil) (fun _ _ _ _ _ => (pe_tup (pa_cons (pv 16) (pa_cons (pe_dget (units1 hr.units) (pv 15) (pv 16) (fun _ _ => rfl)) pa_nil)))))) (pv 19) (nomark _)) (pss_one (ps_ret pe_bl)) pss_nil))))))))))))))))))))))))) (pss_one (ps_ret pe_bl))), ?_⟩
    refine g_start (σ' := some _ :: none :: none :: none :: none :: none :: none :: none :: none :: none :: none :: none :: none :: none :: none :: none :: none :: none :: none :: none :: none :: none :: []) rfl ?_
    walk_at "go"
    refine lp_it walk_range (fun i σ' H' => ∃ u1 u2 u3 u4 u5 u6 u7 u8 u9 u10 u11 u12 u13 u14 u15 u16 u17 u18 u19 u20 u21 : Option V, σ' = [some (.ref a), u1, u2, u3, u4, u5, u6, u7, u8, u9, u10, u11, u12, u13, u14, u15, u16, u17, u18, u19, u20, u21] ∧ Ed [] H H') ⟨_, _, _, _, _, _, _, _, _, _, _, _, _, _, _, _, _, _, _, _, _, rfl, Ed.refl⟩ (fun _ _ _ _ _ => trivial) ?_ ?_
    · rintro i x σ' H1 H2 hi ⟨u1, u2, u3, u4, u5, u6, u7, u8, u9, u10, u11, u12, u13, u14, u15, u16, u17, u18, u19, u20, u21, rfl, e0⟩ ⟨rfl, rfl⟩
      walk_at "go"
      refine call_seed (sqL_same hS e0.same') (by omega) fun b H3 hb0 e1 hb => ?_
      walk_at "go"
      refine call_names (W := [b]) (many := 7) hb (by walk_at "wl") (by decide) rfl fun p f names H4 hp0 e2 hb4 hnm hlen ok => ?_
      walk_at "go"
      refine call_take hb4 (by decide) (by decide) fun d H5 d0 d1 e5 hb5 => ?_
      obtain ⟨n0, n1, n2, n3, n4, n5, n6, rfl⟩ := seven_of hlen
      have m0 : Nm n0 := ⟨f, 0, ok 0 _ rfl⟩
      have m1 : Nm n1 := ⟨f, 1, ok 1 _ rfl⟩
      have m2 : Nm n2 := ⟨f, 2, ok 2 _ rfl⟩
      have m3 : Nm n3 := ⟨f, 3, ok 3 _ rfl⟩
      have m4 : Nm n4 := ⟨f, 4, ok 4 _ rfl⟩
      have m5 : Nm n5 := ⟨f, 5, ok 5 _ rfl⟩
      have m6 : Nm n6 := ⟨f, 6, ok 6 _ rfl⟩
      have eN := e2.tr e5 (edvl subr)
      have hnm5 := hnm.ed e5 subr
      have w5 : Wl [b] H5 := by walk_at "wl"
      have hbH : H b = none := e0.free hb0
      have e05 : Ed [] H H5 := by walk_at "ed"
      clear e0 e1 e2 e5 eN hb hb4 hnm hp0 ok hlen
      walk_at "go"
      refine g_sld hnm5 w5 fun s1 H6 hs1 e6 ds1 => ?_
      obtain ⟨nh, hnh, hnm', hnl⟩ := cut_strs [n0, n1, n2, n3, n4, n5, n6] none (some (1 + d))
      have ds1 : Df [b] H6 (.ref s1) (.list (nh.map PyData.str)) := by rw [← hnh]; exact ds1
      have hn : ∀ x ∈ nh, Nm x := fun x hx => by
        have := hnm' x hx
        simp only [List.mem_cons, List.not_mem_nil, or_false] at this
        rcases this with rfl | rfl | rfl | rfl | rfl | rfl | rfl <;> assumption
      walk_at "go"
      refine g_sld (hnm5.ed e6 no0) (w5.ed e6) fun s2 H7 hs2 e7 ds2 => ?_
      have ds2 : Df [b] H7 (.ref s2) (.list ([n3, n4].map PyData.str)) := ds2
      walk_at "go"
      refine g_sld ((hnm5.ed e6 no0).ed e7 no0) ((w5.ed e6).ed e7) fun s3 H8 hs3 e8 ds3 => ?_
      have ds3 : Df [b] H8 (.ref s3) (.list ([n5, n6].map PyData.str)) := ds3
      walk_at "go"
      have hh : ∀ x ∈ [n3, n4], Nm x := fun x hx => by
        simp only [List.mem_cons, List.not_mem_nil, or_false] at hx
        rcases hx with rfl | rfl <;> assumption
      have hr' : ∀ x ∈ [n5, n6], Nm x := fun x hx => by
        simp only [List.mem_cons, List.not_mem_nil, or_false] at hx
        rcases hx with rfl | rfl <;> assumption
      have sk : ∀ {x : Str}, Nm x → PyData.strOk x = true := fun h => sok_asc fun c hc => by have := (nm_tk h).2 c hc; omega
      have hb8 : Bag H8 b := by walk_at "bag"
      refine ⟨[b], b, s1, s2, s3, nh, [n3, n4], [n5, n6], 3, rfl, hb8, by walk_at "mem", by walk_at "wl", by walk_at "df", by walk_at "df", ds3, Nat.le_trans hnl (Nat.le_of_ble_eq_true rfl), Nat.le_of_ble_eq_true rfl, Nat.le_of_ble_eq_true rfl, fun x hx => sk (hh x hx), fun x hx => sk (hr' x hx), by decide, by decide, fun pp ps H9 hpp e9 hb9 dpp hcd => ?_⟩
      have w9 : Wl [b] H9 := by walk_at "wl"
      have ds19 : Df [b] H9 (.ref s1) (.list (nh.map PyData.str)) := by walk_at "df"
      have ds29 : Df [b] H9 (.ref s2) (.list ([n3, n4].map PyData.str)) := by walk_at "df"
      have ds39 : Df [b] H9 (.ref s3) (.list ([n5, n6].map PyData.str)) := by walk_at "df"
      have e09 : Ed [] H H9 := by walk_at "ed"
      clear e05 e6 e7 e8 e9 ds1 ds2 ds3 hnm5 hb5 hb8 w5
      walk_at "go"
      obtain ⟨_, cdt, cdl, cdn⟩ := cd_ok hn hh hr' hcd
      refine g_cut (fun σ' H' => ∃ (pp : Addr) (ps : List (List (Nat × Atom))) (u8 u9 u10 u11 u12 u13 u14 u15 u16 u17 u18 u19 u20 u21 : Option V), σ' = [some (.ref a), some (.int (0 + (i : Int))), some (.ref b), some (.ref p), some (.ref s1), some (.ref s2), some (.ref s3), some (.ref pp), u8, u9, u10, u11, u12, u13, u14, u15, u16, u17, u18, u19, u20, u21] ∧ Ed [] H9 H' ∧ Df [b] H' (.ref pp) (.list (ps.map partD)) ∧ CdW nh [n3, n4] [n5, n6] 3 ps) (fun R hR => ?_) ?_
      · walk_at "go"
        refine ⟨[b], pp, ps, rfl, dpp, w9, by have := hcd.2.1; omega, fun x hx => ⟨(hcd.2.2 x hx).1, by have := (hcd.2.2 x hx).2.1; omega, fun a ha => cd_s hn hh hr' ((hcd.2.2 x hx).2.2 a ha)⟩, fun H10 e10 hcl => ?_⟩
        walk_at "go"
        rw [split_spc cdn fun t ht => (cdt t ht).1]
        intro tp htp
        generalize hH11 : upd H10 tp _ = H11
        obtain ⟨e11, dtp⟩ := new_s (W := [b]) hH11 htp (by walk_at "wl")
        clear hH11
        walk_at "go"
        refine g_iteD (fun _ => ?_) (fun _ => ?_)
        · walk_at "go"
          exact hR _ _ ⟨pp, ps, _, _, _, _, _, _, _, _, _, _, _, _, _, _, rfl, by walk_at "ed", by walk_at "df", hcd⟩
        · walk_at "go"
          refine g_sld (W := [b]) (ds := ps.map partD) (by walk_at "df") (by walk_at "wl") fun q H12 hq e12 dq => ?_
          walk_at "go"
          refine hR _ _ ⟨q, ps.take 1, _, _, _, _, _, _, _, _, _, _, _, _, _, _, rfl, by walk_at "ed", ?_, ?_⟩
          · rw [cut_one] at dq
            exact dq
          · obtain ⟨h1, h2, h3⟩ := hcd
            refine ⟨fun z => ?_, by rw [List.length_take]; omega, fun x hx => h3 x (List.mem_of_mem_take hx)⟩
            cases ps with
            | nil => exact h1 rfl
            | cons x r => cases z
      clear cdt cdl cdn hcd dpp
      rintro σ' H10 ⟨pp, ps, u8, u9, u10, u11, u12, u13, u14, u15, u16, u17, u18, u19, u20, u21, rfl, e10, dpp, hcd⟩
      walk_at "go"
      obtain ⟨hcok, cdt, cdl, cdn⟩ := cd_ok hn hh hr' hcd
      refine ⟨[b], pp, ps, rfl, dpp, w9.ed e10, by have := hcd.2.1; omega, fun x hx => ⟨(hcd.2.2 x hx).1, by have := (hcd.2.2 x hx).2.1; omega, fun a ha => cd_s hn hh hr' ((hcd.2.2 x hx).2.2 a ha)⟩, fun H11 e11 hcl => ?_⟩
      walk_at "go"
      refine g_ofC rfl (by walk_at "bag") fun c H12 hc e12 hb12 => ?_
      simp only [List.set_cons_succ, List.set_cons_zero]
      have dpp12 : Df [b] H12 (.ref pp) (.list (ps.map partD)) := by walk_at "df"
      have eA : Ed [b] H9 H12 := by walk_at "ed"
      have w12 : Wl [b] H12 := w9.ed eA
      have d1 := ds19.ed eA subr
      have d2 := ds29.ed eA subr
      have d3 := ds39.ed eA subr
      clear e10 e11 e12 dpp ds19 ds29 ds39 w9 hb9
      walk_at "go"
      refine g_listd (W := [b]) d1 w12 fun l0 H13 h0 e13 dl0 => ?_
      walk_at "go"
      refine g_listd (W := [b]) (ds := [n3, n4].map PyData.str) (by walk_at "df") (by walk_at "wl") fun l1 H14 h1 e14 dl1 => ?_
      walk_at "go"
      refine g_listd (W := [b]) (ds := [n5, n6].map PyData.str) (by walk_at "df") (by walk_at "wl") fun l2 H15 h2 e15 dl2 => ?_
      have hne2 : l2 ∉ [b] := dl2.nin
      have w14 : Wl [b] H14 := by walk_at "wl"
      have d14 : ∀ {v : V} {dd : PyData}, Df [b] H12 v dd → Df [l2, b] H15 v dd := fun h => (((h.ed e13 no0).ed e14 no0).more h2).ed e15 no0
      have q1 := d14 d1
      have q2 := d14 d2
      have q3 := d14 d3
      have qpp := d14 dpp12
      have w15 : Wl [l2, b] H15 := Wl.cons' dl2.alive (by walk_at "wl")
      have r2 : H15 l2 = some (.lst ([n5, n6].map V.str)) := dl2.strL.2
      have hb15 : Bag H15 b := by walk_at "bag"
      have dl0 : Df [b] H15 (.ref l0) (.list (nh.map PyData.str)) := by walk_at "df"
      have dl1 : Df [b] H15 (.ref l1) (.list ([n3, n4].map PyData.str)) := by walk_at "df"
      have dl2 : Df [b] H15 (.ref l2) (.list ([n5, n6].map PyData.str)) := dl2
      have e1215 : Ed [] H12 H15 := by clear d14; walk_at "ed"
      have e915 : Ed [b] H9 H15 := eA.tr e1215 no0
      clear e1215
      have hl2H : H l2 = none := e09.free (eA.free (e13.free (e14.free h2)))
      clear d14 d1 d2 d3 dpp12 e13 e14 e15 eA w12 w14 h0 h1 h2
      walk_at "go"
      refine al fun lp hlp => ?_
      generalize hG : upd H15 lp _ = H16
      have rlp : H16 lp = some (.lst [.ref l0, .ref l1, .ref l2]) := by rw [← hG]; exact upd_same
      obtain ⟨e16, dlp⟩ := new_l (W := [b]) (ds := [.list (nh.map PyData.str), .list ([n3, n4].map PyData.str), .list ([n5, n6].map PyData.str)]) hG hlp (by walk_at "dfs") (by walk_at "wl")
      clear hG
      have hc2 : c = " " ∨ c = "  " := by
        simp only [List.mem_cons, List.not_mem_nil, or_false] at hc
        exact hc
      have hcl2 : c.length ≤ 2 := by rcases hc2 with rfl | rfl <;> decide +kernel
      refine ⟨spc (condT ps), c, rfl, rfl, by have := Nat.mul_le_mul_left ((spc (condT ps)).length + 1) hcl2; omega, fun c' hc' => ?_⟩
      have hw := words_repl (fun t ht => (cdt t ht).1) hc2 hc'
      have hwl := repl_length (fun t ht => (cdt t ht).1) (fun t ht => (cdt t ht).2) hc2 hc'
      walk_at "go"
      intro x dx hx hdx hnx
      generalize hH17 : upd (upd H16 dx _) x _ = H17
      obtain ⟨e17, hx0⟩ := new_i hH17 hx hdx hnx
      clear hH17
      have hl17 : H17 l2 ≠ none := e17.2 _ (e16.2 _ (by rw [r2]; exact fun z => nomatch z))
      have hb17 : H17 b ≠ none := e17.2 _ (e16.2 _ hb15.alive)
      have t0 : Df [b] H17 (.ref l0) (.list (nh.map PyData.str)) := by walk_at "df"
      have t1 : Df [b] H17 (.ref l1) (.list ([n3, n4].map PyData.str)) := by walk_at "df"
      have t2 : Df [b] H17 (.ref l2) (.list ([n5, n6].map PyData.str)) := by walk_at "df"
      refine call_cond (names := nh) (hs := [n3, n4]) (rs := [n5, n6]) (ps := ps) hx0 (SqL.of t0.strL.2) (SqL.of t1.strL.2) (SqL.of t2.strL.2) hw (by omega) hcok fun H18 s18 hC => ⟨rfl, ?_⟩
      have e18 : Ed [] H16 H18 := cond_made hx e17 s18 hC
      clear e17 s18 hx0 t0 t1 t2
      simp only [List.set_cons_succ, List.set_cons_zero]
      refine g_uncut ?_
      walk_at "go"
      refine al fun lq hlq => ?_
      generalize hH19 : upd H18 lq _ = H19
      obtain ⟨e19, dlq⟩ := new_l (W := [b]) hH19 hlq (by walk_at "dfs") (by walk_at "wl")
      clear hH19
      have sds : ∀ {l : List Str}, (∀ x ∈ l, Nm x) → Sd 1 (.list (l.map PyData.str)) := fun h => Sd.list (n := 0) (Sd.map fun x hx => Sd.str (sk (h x hx)))
      refine g_neSelf (W := [b]) (n := 2) (by walk_at "df") dlq (Sd.list (Sd.cons (sds hn) (Sd.cons (sds hh) (Sd.cons (sds hr') Sd.nil)))) (by decide) ?_
      obtain ⟨dxC, lC, hxC, hpC⟩ := hC.ed (U := []) e19
      walk_at "go"
      refine g_strO ?_
      walk_at "go"
      refine ⟨x, dxC, lC, _, rfl, hxC, _, rfl, ?_⟩
      walk_at "go"
      have rlp19 := e19.get List.not_mem_nil (e18.get List.not_mem_nil rlp)
      refine g_ix_l (Or.inl (SqL.of rlp19)) (show atI [V.ref l0, V.ref l1, V.ref l2] 2 = some (.ref l2) from rfl) ?_
      have r219 : H19 l2 = some (.lst ([n5, n6].map V.str)) := e19.get List.not_mem_nil (e18.get List.not_mem_nil (e16.get List.not_mem_nil r2))
      have e1519 : Ed [] H15 H19 := (e16.tr e18 no0).tr e19 no0
      clear e16 e18 dlp dlq
      walk_at "go"
      refine g_clear r219 ?_
      have eP : Ed [l2] H19 (upd H19 l2 (.lst [])) := Ed.put
      have hC20 : CondAt K (fun a => H17 a = none) (upd H19 l2 (.lst [])) x (valC ps) (spc (condT ps)) := by
        refine ⟨dxC, lC, ?_, hpC.mv ⟨fun a xs ha => ?_, fun a xs hF ha => ⟨hF, ?_⟩⟩⟩
        · rw [upd_ne (fun z => by rw [z, r219] at hxC; cases hxC)]; exact hxC
        · rw [upd_ne (fun z => by rw [z, r219] at ha; cases ha)]; exact ha
        · rw [upd_ne (fun z => by rw [z] at hF; exact hl17 hF)]; exact ha
      generalize upd H19 l2 (.lst []) = H20 at eP hC20
      have q1' : Df [l2, b] H20 (.ref s1) (.list (nh.map PyData.str)) := (q1.ed e1519 no0).ed eP (sub1 (List.mem_cons_self ..))
      have q2' : Df [l2, b] H20 (.ref s2) (.list ([n3, n4].map PyData.str)) := (q2.ed e1519 no0).ed eP (sub1 (List.mem_cons_self ..))
      have q3' : Df [l2, b] H20 (.ref s3) (.list ([n5, n6].map PyData.str)) := (q3.ed e1519 no0).ed eP (sub1 (List.mem_cons_self ..))
      have qpp' : Df [l2, b] H20 (.ref pp) (.list (ps.map partD)) := (qpp.ed e1519 no0).ed eP (sub1 (List.mem_cons_self ..))
      have w20 : Wl [l2, b] H20 := (w15.ed e1519).ed eP
      have hb20 : Bag H20 b := (hb15.ed e1519 List.not_mem_nil).ed eP (fun z => hne2 (by rw [← List.mem_singleton.mp z]; exact List.mem_singleton.mpr rfl))
      have e020 : Ed [] H H20 := ((e09.tr e915 (edv1 (.inr hbH))).tr e1519 no0).tr eP (edv1 (.inr hl2H))
      clear e1519 eP e915 e09 q1 q2 q3 qpp w15 hb15 dl0 dl1 dl2 rlp rlp19 r219 r2 hC hxC hpC e19 hw hwl
      walk_at "go"
      refine lp_it walk_range (fun j σ' H' => ∃ (u12 u13 u14 u15 u16 u17 u18 u19 u20 u21 : Option V), σ' = [some (.ref a), some (.int (0 + (i : Int))), some (.ref b), some (.ref p), some (.ref s1), some (.ref s2), some (.ref s3), some (.ref pp), some (.str (spc (condT ps))), some (.str c), some (.ref lp), some (.ref x), u12, u13, u14, u15, u16, u17, u18, u19, u20, u21] ∧ Ed [b] H20 H' ∧ Bag H' b) ⟨_, _, _, _, _, _, _, _, _, _, rfl, Ed.refl, hb20⟩ (fun _ _ _ _ _ => trivial) ?_ ?_
      · rintro j y σ' H21 H22 hj ⟨u12, u13, u14, u15, u16, u17, u18, u19, u20, u21, rfl, e21, hb21⟩ ⟨rfl, rfl⟩
        have w22 : Wl [l2, b] H22 := w20.ed e21
        have bw : b ∈ [l2, b] := by simp
        have v1 := q1'.ed e21 (sub1 bw)
        have v2 := q2'.ed e21 (sub1 bw)
        have v3 := q3'.ed e21 (sub1 bw)
        have vpp := qpp'.ed e21 (sub1 bw)
        have hl22 : H20 x ≠ none := by obtain ⟨_, _, h, _⟩ := hC20; rw [h]; exact fun z => nomatch z
        walk_at "go"
        refine al fun ls hls => ?_
        generalize hH23 : upd H22 ls _ = H23
        obtain ⟨e23, dls⟩ := new_l (W := [l2, b]) hH23 hls (by walk_at "dfs") (by walk_at "wl")
        clear hH23
        walk_at "go"
        refine call_ofC (W := [l2, b]) (by walk_at "bag") dls bw fun v dd H24 hd e24 hb24 dv => ?_
        obtain ⟨m, rfl, m0, m1⟩ : ∃ m : Int, dd = .int m ∧ 0 < m ∧ m ≤ 10 ^ 30 := by
          simp only [List.mem_cons, List.not_mem_nil, or_false] at hd
          rcases hd with rfl | rfl | rfl <;> exact ⟨_, rfl, by decide, by decide⟩
        obtain rfl := dv.isInt
        have e2224 : Ed [b] H22 H24 := (e23.weak no0).tr e24 (edvl subr)
        walk_at "go"
        have t1 := v1.ed e2224 (sub1 bw)
        have t2 := v2.ed e2224 (sub1 bw)
        have t3 := v3.ed e2224 (sub1 bw)
        have tpp := vpp.ed e2224 (sub1 bw)
        have w24 : Wl [l2, b] H24 := w22.ed e2224
        have e2024 : Ed [b] H20 H24 := e21.tr e2224 (edvl subr)
        clear e21 e23 e24 e2224 v1 v2 v3 vpp dls hb21 w22
        intro vd hvd
        generalize hG : upd H24 vd _ = H25
        have rvd : H25 vd = some (.dK []) := by rw [← hG]; exact upd_same
        have e25 : Ed [] H24 H25 := by rw [← hG]; exact Ed.new hvd
        clear hG
        walk_at "go"
        intro sd hsd
        have hvs : vd ≠ sd := ne_of_none rvd hsd
        generalize hG : upd H25 sd _ = H26
        have rsd : H26 sd = some (.dK []) := by rw [← hG]; exact upd_same
        have e26 : Ed [] H25 H26 := by rw [← hG]; exact Ed.new hsd
        clear hG
        have rvd : H26 vd = some (.dK []) := e26.get List.not_mem_nil rvd
        walk_at "go"
        refine al fun tp htp => ?_
        generalize hG : upd H26 tp _ = H27
        have rtp : H27 tp = some (.tup [.ref vd, .ref sd]) := by rw [← hG]; exact upd_same
        have e27 : Ed [] H26 H27 := by rw [← hG]; exact Ed.new htp
        clear hG
        walk_at "go"
        have mk : ∀ {v : V} {dd : PyData}, Df [l2, b] H24 v dd → Df [sd, vd, l2, b] H27 v dd := fun h => ((((h.more hvd).ed e25 no0).more hsd).ed e26 no0).ed e27 no0
        have c1 := mk t1
        have c2 := mk t2
        have c3 := mk t3
        have cpp := mk tpp
        have rvd27 : H27 vd = some (.dK []) := e27.get List.not_mem_nil rvd
        have rsd27 : H27 sd = some (.dK []) := e27.get List.not_mem_nil rsd
        have e2427 : Ed [] H24 H27 := (e25.tr e26 no0).tr e27 no0
        have w27 : Wl [sd, vd, l2, b] H27 := Wl.cons rsd27 (Wl.cons rvd27 (w24.ed e2427))
        have hb27 : Bag H27 b := hb24.ed e2427 List.not_mem_nil
        have e2027 : Ed [b] H20 H27 := e2024.tr e2427 no0
        have nvb : vd ∉ [b] := fun z => by rw [List.mem_singleton.mp z] at hvd; exact w24 b (by simp) hvd
        have nsb : sd ∉ [b] := fun z => by rw [List.mem_singleton.mp z] at hsd; exact w24 b (by simp) (e25.free hsd)
        have hvd20 : H20 vd = none := e2024.free hvd
        have hsd20 : H20 sd = none := e2024.free (e25.free hsd)
        clear mk t1 t2 t3 tpp rvd rsd e25 e26 e27 e2427 hb24 w24 hvd hsd e2024 rtp htp
        walk_at "go"
        refine lp_df c1 (fun k σ' H' => ∃ (u16 u17 : Option V) (val : Str → Int) (kvs : List (Key × V)), σ' = [some (.ref a), some (.int (0 + (i : Int))), some (.ref b), some (.ref p), some (.ref s1), some (.ref s2), some (.ref s3), some (.ref pp), some (.str (spc (condT ps))), some (.str c), some (.ref lp), some (.ref x), some (.int (0 + (j : Int))), some (.int m), some (.ref vd), some (.ref sd), u16, u17, u18, u19, u20, u21] ∧ Ed [vd, b] H27 H' ∧ Bag H' b ∧ H' vd = some (.dK kvs) ∧ kvs.length ≤ k ∧ ∀ s ∈ nh.take k, valV kvs (.inr s) = some (.int (val s))) ⟨_, _, fun _ => 0, [], rfl, Ed.refl, hb27, rvd27, Nat.le_refl _, by simp⟩ (fun k σ' H' _ h => by
          obtain ⟨_, _, _, _, _, h, _⟩ := h
          exact h.weak (by simp)) ?_ ?_
        · rintro k y dd σ' H28 hdd ⟨u16, u17, val, kvs, rfl, e28, hb28, hv28, hkl, hval⟩ hy
          obtain ⟨s, hs, rfl⟩ := at_map hdd
          obtain rfl := hy.isStr
          walk_at "go"
          refine call_take hb28 m0 (by omega) fun z H29 z0 z1 e29 hb29 => ?_
          walk_at "go"
          refine call_take hb29 (by decide) (by decide) fun z' H30 z0' z1' e30 hb30 => ?_
          have hv30 : H30 vd = some (.dK kvs) := e30.get nvb (e29.get nvb hv28)
          have eK : Ed [vd, b] H27 H30 := (e28.tr e29 (edvl (by simp))).tr e30 (edvl (by simp))
          clear e28 e29 e30 hb28 hb29 hv28
          have hkn : k < nh.length := (List.getElem?_eq_some_iff.mp hs).1
          have hkz : kvs.length < sizeLine := by rw [sizeLine_eq]; have : nh.length ≤ 7 := hnl; omega
          walk_at "go"
          refine g_iteD (fun _ => ?_) (fun _ => ?_)
          · walk_at "go"
            refine g_dps hv30 hkz ?_
            obtain ⟨val', hval'⟩ := put_val hs hval (-z)
            exact ⟨_, _, val', _, rfl, eK.tr Ed.put (edvl (by simp)), hb30.put (fun z => nvb (by rw [← z]; exact List.mem_singleton.mpr rfl)), upd_same, Nat.le_trans (length_putK ..) (Nat.succ_le_succ hkl), hval'⟩
          · walk_at "go"
            refine g_dps hv30 hkz ?_
            obtain ⟨val', hval'⟩ := put_val hs hval z
            exact ⟨_, _, val', _, rfl, eK.tr Ed.put (edvl (by simp)), hb30.put (fun z => nvb (by rw [← z]; exact List.mem_singleton.mpr rfl)), upd_same, Nat.le_trans (length_putK ..) (Nat.succ_le_succ hkl), hval'⟩
        · rintro σ' H28 ⟨u16, u17, val, kvs, rfl, e28, hb28, hv28, hkl, hval⟩
          rw [take_all rfl] at hval
          rw [List.length_map] at hkl
          have g1 := c1.ed e28 (by simp)
          have g2 := c2.ed e28 (by simp)
          have g3 := c3.ed e28 (by simp)
          have gpp := cpp.ed e28 (by simp)
          have w28 : Wl [sd, vd, l2, b] H28 := w27.ed e28
          have hs28 : H28 sd = some (.dK []) := e28.get (fun z => by rcases List.mem_cons.mp z with z | z; exact hvs z.symm; exact nsb z) rsd27
          have e2028 : Ed [b] H20 H28 := e2027.tr e28 (fun a z => by
            rcases List.mem_cons.mp z with rfl | z
            · exact .inr hvd20
            · exact .inl z)
          clear c1 c2 c3 cpp e28 e2027 rsd27 rvd27 w27 hb27
          walk_at "go"
          refine lp_df g2 (fun k σ' H' => ∃ (u16 : Option V) (st : Str → Option Str) (hvs : List (Key × V)), σ' = [some (.ref a), some (.int (0 + (i : Int))), some (.ref b), some (.ref p), some (.ref s1), some (.ref s2), some (.ref s3), some (.ref pp), some (.str (spc (condT ps))), some (.str c), some (.ref lp), some (.ref x), some (.int (0 + (j : Int))), some (.int m), some (.ref vd), some (.ref sd), u16, u17, u18, u19, u20, u21] ∧ Ed [sd, b] H28 H' ∧ Bag H' b ∧ H' sd = some (.dK hvs) ∧ hvs.length ≤ k ∧ ∀ s ∈ ([n3, n4] : List Str).take k, valV hvs (.inr s) = some (stV (st s)) ∧ Sd 0 (stD (st s))) ⟨_, fun _ => none, [], rfl, Ed.refl, hb28, hs28, Nat.le_refl _, by simp⟩ (fun k σ' H' _ h => by
            obtain ⟨_, _, _, _, h, _⟩ := h
            exact h.weak (by simp)) ?_ ?_
          · rintro k y dd σ' H29 hdd ⟨u16, st, hvs', rfl, e29, hb29, hs29, hkl', hst⟩ hy
            obtain ⟨s, hs, rfl⟩ := at_map hdd
            obtain rfl := hy.isStr
            have g3' := g3.ed e29 (by simp)
            have w29 := w28.ed e29
            have hb4 : b ∈ [sd, vd, l2, b] := by simp
            walk_at "go"
            refine g_ixd (ds := [n5, n6].map PyData.str) (d := .str n5) g3' rfl fun v hv => ?_
            obtain rfl := hv.isStr
            walk_at "go"
            refine g_ixd (ds := [n5, n6].map PyData.str) (d := .str n6) g3' rfl fun v hv => ?_
            obtain rfl := hv.isStr
            walk_at "go"
            refine al fun lo hlo => ?_
            generalize hG : upd H29 lo _ = H30
            obtain ⟨e30, dlo⟩ := new_l (W := [sd, vd, l2, b]) (ds := [.none, .str "over", .str n5, .str n6]) hG hlo (.cons .non (.cons (.str _) (.cons (.str _) (.cons (.str _) .nil)))) w29
            clear hG
            walk_at "go"
            refine call_ofC (W := [sd, vd, l2, b]) (hb29.ed e30 List.not_mem_nil) dlo hb4 fun v dd H31 hd e31 hb31 dv => ?_
            obtain ⟨w, rfl, hw⟩ : ∃ w : Option Str, v = stV w ∧ Sd 0 (stD w) := by
              simp only [List.mem_cons, List.not_mem_nil, or_false] at hd
              rcases hd with rfl | rfl | rfl | rfl
              · exact ⟨none, by cases dv; rfl, Sd.none⟩
              · exact ⟨some _, dv.isStr, Sd.str (by decide +kernel)⟩
              · exact ⟨some _, dv.isStr, Sd.str (sk m5)⟩
              · exact ⟨some _, dv.isStr, Sd.str (sk m6)⟩
            have hs31 : H31 sd = some (.dK hvs') := e31.get nsb (e30.get List.not_mem_nil hs29)
            have eK : Ed [sd, b] H28 H31 := (e29.tr e30 no0).tr e31 (edvl (by simp))
            clear e29 e30 e31 hb29 hs29 dlo
            walk_at "go"
            refine g_dps hs31 (by rw [sizeLine_eq]; have := (List.getElem?_eq_some_iff.mp hs).1; simp at this; omega) ?_
            obtain ⟨st', hst'⟩ := put_st hs hst w hw
            exact ⟨_, st', _, rfl, eK.tr Ed.put (edvl (by simp)), hb31.put (fun z => nsb (by rw [← z]; exact List.mem_singleton.mpr rfl)), upd_same, Nat.le_trans (length_putK ..) (Nat.succ_le_succ hkl'), hst'⟩
          · rintro σ' H29 ⟨u16, st, hvs', rfl, e29, hb29, hs29, hkl', hst⟩
            have hst2 : ∀ s ∈ ([n3, n4] : List Str), Sd 0 (stD (st s)) := fun s hs => (hst s hs).2
            have hst : ∀ s ∈ ([n3, n4] : List Str), valV hvs' (.inr s) = some (stV (st s)) := fun s hs => (hst s hs).1
            have k1 := g1.ed e29 (by simp)
            have k2 := g2.ed e29 (by simp)
            have k3 := g3.ed e29 (by simp)
            have kpp := gpp.ed e29 (by simp)
            have w29 : Wl [sd, vd, l2, b] H29 := w28.ed e29
            have hv29 : H29 vd = some (.dK kvs) := e29.get (fun z => by rcases List.mem_cons.mp z with z | z; exact hvs z; exact nvb z) hv28
            have e2029 : Ed [b] H20 H29 := e2028.tr e29 (fun a z => by
              rcases List.mem_cons.mp z with rfl | z
              · exact .inr hsd20
              · exact .inl z)
            clear g1 g2 g3 gpp e29 e2028 hv28 hs28 w28 hb28
            have hb4 : b ∈ [sd, vd, l2, b] := by simp
            walk_at "go"
            intro D hD
            refine lc_df (by walk_at "wipe") (U := [b]) (W := [sd, vd, l2, b]) (ds := [n5, n6].map PyData.str) k3 (by rw [sizeLine_eq]; exact Nat.le_of_ble_eq_true rfl) hD w29 (sub1 hb4) (fun jj acc => ∃ op : List Str, acc = op.map PyData.str ∧ op.length ≤ jj ∧ ∀ s ∈ op, Nm s) (fun H' => Bag H' b) (bagJ w29 hD hb4) hb29 ⟨[], rfl, Nat.le_refl _, fun _ z => absurd z List.not_mem_nil⟩ ?_ ?_
            · rintro jj y dd acc H30 R N hdd ⟨op, rfl, hopl, hop⟩ hb30 e30 w30 hy yes no
              obtain ⟨s, hs, rfl⟩ := at_map hdd
              obtain rfl := hy.isStr
              walk_at "go"
              refine ⟨rfl, ?_⟩
              walk_at "go"
              refine call_take hb30 (by decide) (by decide) fun z H31 z0 z1 e31 hb31 => ?_
              walk_at "go"
              refine g_iteD (fun _ => ?_) (fun _ => ?_)
              · walk_at "go"
                refine yes _ _ _ e31 (.str _) hb31 ⟨op ++ [s], by rw [List.map_append]; rfl, by simp; exact hopl, fun t ht => ?_⟩
                rcases List.mem_append.mp ht with ht | ht
                · exact hop t ht
                · rw [List.mem_singleton.mp ht]; exact hr' _ (List.mem_of_getElem? hs)
              · exact no _ e31 hb31 ⟨op, rfl, Nat.le_succ_of_le hopl, hop⟩
            rintro acc H30 ⟨op, rfl, hopl, hop⟩ hb30 e30 dop _
            have hopl : op.length ≤ 2 := hopl
            have j1 := k1.ed e30 (sub1 hb4)
            have j2 := k2.ed e30 (sub1 hb4)
            have jpp := kpp.ed e30 (sub1 hb4)
            have w30 : Wl [sd, vd, l2, b] H30 := w29.ed e30
            have hv30 : H30 vd = some (.dK kvs) := e30.get nvb hv29
            have hs30 : H30 sd = some (.dK hvs') := e30.get nsb hs29
            have e2030 : Ed [b] H20 H30 := e2029.tr e30 (edvl subr)
            clear k1 k2 k3 kpp w29 hv29 hs29 e30 e2029 hb29
            walk_at "go"
            intro D2 hD2
            refine lc_df (by walk_at "wipe") (U := []) (W := [sd, vd, l2, b]) (ds := nh.map PyData.str) j1 (by rw [sizeLine_eq, List.length_map]; have : nh.length ≤ 7 := hnl; simp; try omega) hD2 w30 no0 (fun jj acc => acc = (nh.take jj).map fun s => PyData.tuple [.str s, .int (val s)]) (fun H' => H' vd = some (.dK kvs)) (fun _ _ h e => e.get (fun z => (ne_of_none hv30 hD2) (List.mem_singleton.mp z)) h) hv30 rfl ?_ ?_
            · rintro jj y dd acc HB R N hdd hacc hd1 e1 w1 hy yes no
              obtain ⟨s, hs, rfl⟩ := at_map hdd
              obtain rfl := hy.isStr
              have hvs1 := hval s (List.mem_of_getElem? hs)
              walk_at "go"
              refine ⟨rfl, ?_⟩
              walk_at "go"
              refine al fun tq htq => ?_
              generalize hG : upd HB tq _ = HT
              obtain ⟨e2, dtq⟩ := new_t (W := D2 :: [sd, vd, l2, b]) (ds := [.str s, .int (val s)]) hG htq (.cons (.str _) (.cons (.int _) .nil)) w1
              clear hG
              exact yes _ _ _ e2 dtq (e2.get List.not_mem_nil hd1) (by rw [hacc, take_snoc hs])
            rintro acc H31 hacc _ eH31 dD2 _
            rw [take_all rfl] at hacc
            subst hacc
            have j2b := j2.ed eH31 no0
            have w31 := w30.ed eH31
            have hs31 := eH31.get List.not_mem_nil hs30
            walk_at "go"
            intro D3 hD3
            refine lc_df (by walk_at "wipe") (U := []) (W := [sd, vd, l2, b]) (ds := ([n3, n4] : List Str).map PyData.str) j2b (by rw [sizeLine_eq, List.length_map]; have : nh.length ≤ 7 := hnl; simp; try omega) hD3 w31 no0 (fun jj acc => acc = (([n3, n4] : List Str).take jj).map fun s => PyData.tuple [.str s, stD (st s)]) (fun H' => H' sd = some (.dK hvs')) (fun _ _ h e => e.get (fun z => (ne_of_none hs31 hD3) (List.mem_singleton.mp z)) h) hs31 rfl ?_ ?_
            · rintro jj y dd acc HB R N hdd hacc hd1 e1 w1 hy yes no
              obtain ⟨s, hs, rfl⟩ := at_map hdd
              obtain rfl := hy.isStr
              have hvs1 := hst s (List.mem_of_getElem? hs)
              walk_at "go"
              refine ⟨rfl, ?_⟩
              walk_at "go"
              refine al fun tq htq => ?_
              generalize hG : upd HB tq _ = HT
              obtain ⟨e2, dtq⟩ := new_t (W := D3 :: [sd, vd, l2, b]) (ds := [.str s, stD (st s)]) hG htq (.cons (.str _) (.cons (df_st _) .nil)) w1
              clear hG
              exact yes _ _ _ e2 dtq (e2.get List.not_mem_nil hd1) (by rw [hacc, take_snoc hs])
            rintro acc H32 hacc _ eH32 dD3 _
            rw [take_all rfl] at hacc
            subst hacc
            have w32 : Wl [sd, vd, l2, b] H32 := w31.ed eH32
            have a2 := dD2.ed eH32 no0
            have dop32 := (dop.ed eH31 no0).ed eH32 no0
            have m1 := (j1.ed eH31 no0).ed eH32 no0
            have m2 := j2b.ed eH32 no0
            have mpp := (jpp.ed eH31 no0).ed eH32 no0
            have hv32 := eH32.get List.not_mem_nil (eH31.get List.not_mem_nil hv30)
            have hs32 := eH32.get List.not_mem_nil hs31
            have e2032 : Ed [b] H20 H32 := (e2030.tr eH31 no0).tr eH32 no0
            have e3032 : Ed [] H30 H32 := eH31.tr eH32 no0
            clear j1 j2 j2b jpp eH31 eH32 w30 w31 hv30 hs30 hs31 e2030 dD2 dop
            refine g_addd a2 dD3 w32 (by rw [sizeLine_eq, List.length_map, List.length_map]; have : nh.length ≤ 7 := hnl; simp; omega) fun kp H33 hkp e33 dkp => ?_
            walk_at "go"
            refine al fun le hle => ?_
            generalize hG : upd H33 le _ = H34
            obtain ⟨e34, dle⟩ := new_l (W := [sd, vd, l2, b]) (ds := []) hG hle .nil (w32.ed e33)
            clear hG
            walk_at "go"
            refine g_addd ((dop32.ed e33 no0).ed e34 no0) dle ((w32.ed e33).ed e34) (by rw [sizeLine_eq, List.length_map]; simp; omega) fun ho H35 hho e35 dho => ?_
            have dho : Df [sd, vd, l2, b] H35 (.ref ho) (.list (op.map PyData.str)) := by
              rw [List.append_nil] at dho
              exact dho
            have e3235 : Ed [] H32 H35 := (e33.tr e34 no0).tr e35 no0
            have dkp := (dkp.ed e34 no0).ed e35 no0
            have dop35 := dop32.ed e3235 no0
            have n1 := m1.ed e3235 no0
            have n2 := m2.ed e3235 no0
            have npp := mpp.ed e3235 no0
            have hv35 := e3235.get List.not_mem_nil hv32
            have hs35 := e3235.get List.not_mem_nil hs32
            have w35 := w32.ed e3235
            have e2035 : Ed [b] H20 H35 := e2032.tr e3235 no0
            have e3037 : Ed [] H30 H35 := e3032.tr e3235 no0
            have hC35 := hC20.edB e2035 hb20 hb17
            have hCx := hC35
            obtain ⟨dx3, l3, hx3, _⟩ := hCx
            have hat := atoms_ok (q := ⟨val, st, op⟩) hn hh hr' sk hcd hval hst
            clear m1 m2 mpp hv32 hs32 w32 e33 e34 e35 e3235 dop32 a2 dD3 dle e2032
            walk_at "go"
            refine ⟨_, x, vd, sd, ho, valC ps, spc (condT ps), kvs, hvs', ⟨val, st, op⟩, rfl, hC35, hv35, hs35, SqL.of dho.strL.2, atoms_val hat, fun H36 e36 => ?_⟩
            walk_at "go"
            refine g_uncut ?_
            walk_at "go"
            refine g_isi (b := true) (.ty _) (.base (.bl _)) (by rfl) ?_
            walk_at "go"
            refine ⟨[sd, vd, l2, b], pp, vd, sd, D, ps, kvs, hvs', ⟨val, st, op⟩, rfl, npp.ed e36 no0, w35.ed e36, e36.get List.not_mem_nil hv35, e36.get List.not_mem_nil hs35, SqL.of (dop35.ed e36 no0).strL.2, hat, fun H37 e37 => ?_⟩
            walk_at "go"
            have e3537 : Ed [] H35 H37 := e36.tr e37 no0
            have y1 := n1.ed e3537 no0
            have y2' := n2.ed e3537 no0
            have dkp37 := dkp.ed e3537 no0
            have hv37 := e3537.get List.not_mem_nil hv35
            have hs37 := e3537.get List.not_mem_nil hs35
            have w37 := w35.ed e3537
            have e2037 : Ed [b] H20 H37 := e2035.tr e3537 no0
            have hb37 : Bag H37 b := hb30.ed (by
              have : Ed [] H30 H37 := e3037.tr e3537 no0
              exact this) List.not_mem_nil
            refine g_neSelf (W := [sd, vd, l2, b]) (n := 1) (dho.ed e3537 no0) (dop35.ed e3537 no0) (Sd.list (n := 0) (Sd.map fun s hs => Sd.str (sk (hop s hs)))) (by decide) ?_
            clear e36 e37 e3537 n1 n2 npp hv35 hs35 w35 e2035 dho dop35 dkp hC35 hx3
            walk_at "go"
            intro D4 hD4
            refine lc_df (by walk_at "wipe") (U := []) (W := [sd, vd, l2, b]) (ds := nh.map PyData.str) y1 (by rw [sizeLine_eq, List.length_map]; have : nh.length ≤ 7 := hnl; simp; try omega) hD4 w37 no0 (fun jj acc => acc = (nh.take jj).map fun s => PyData.tuple [.str s, .int (val s)]) (fun H' => H' vd = some (.dK kvs)) (fun _ _ h e => e.get (fun z => (ne_of_none hv37 hD4) (List.mem_singleton.mp z)) h) hv37 rfl ?_ ?_
            · rintro jj y dd acc HB R N hdd hacc hd1 e1 w1 hy yes no
              obtain ⟨s, hs, rfl⟩ := at_map hdd
              obtain rfl := hy.isStr
              have hvs1 := hval s (List.mem_of_getElem? hs)
              walk_at "go"
              refine ⟨rfl, ?_⟩
              walk_at "go"
              refine al fun tq htq => ?_
              generalize hG : upd HB tq _ = HT
              obtain ⟨e2, dtq⟩ := new_t (W := D4 :: [sd, vd, l2, b]) (ds := [.str s, .int (val s)]) hG htq (.cons (.str _) (.cons (.int _) .nil)) w1
              clear hG
              exact yes _ _ _ e2 dtq (e2.get List.not_mem_nil hd1) (by rw [hacc, take_snoc hs])
            rintro acc H38 hacc _ eH38 dD4 _
            rw [take_all rfl] at hacc
            subst hacc
            have y2 := y2'.ed eH38 no0
            have w38 := w37.ed eH38
            have hs38 := eH38.get List.not_mem_nil hs37
            walk_at "go"
            intro D5 hD5
            refine lc_df (by walk_at "wipe") (U := []) (W := [sd, vd, l2, b]) (ds := ([n3, n4] : List Str).map PyData.str) y2 (by rw [sizeLine_eq, List.length_map]; have : nh.length ≤ 7 := hnl; simp; try omega) hD5 w38 no0 (fun jj acc => acc = (([n3, n4] : List Str).take jj).map fun s => PyData.tuple [.str s, stD (st s)]) (fun H' => H' sd = some (.dK hvs')) (fun _ _ h e => e.get (fun z => (ne_of_none hs38 hD5) (List.mem_singleton.mp z)) h) hs38 rfl ?_ ?_
            · rintro jj y dd acc HB R N hdd hacc hd1 e1 w1 hy yes no
              obtain ⟨s, hs, rfl⟩ := at_map hdd
              obtain rfl := hy.isStr
              have hvs1 := hst s (List.mem_of_getElem? hs)
              walk_at "go"
              refine ⟨rfl, ?_⟩
              walk_at "go"
              refine al fun tq htq => ?_
              generalize hG : upd HB tq _ = HT
              obtain ⟨e2, dtq⟩ := new_t (W := D5 :: [sd, vd, l2, b]) (ds := [.str s, stD (st s)]) hG htq (.cons (.str _) (.cons (df_st _) .nil)) w1
              clear hG
              exact yes _ _ _ e2 dtq (e2.get List.not_mem_nil hd1) (by rw [hacc, take_snoc hs])
            rintro acc H39 hacc _ eH39 dD5 _
            rw [take_all rfl] at hacc
            subst hacc
            walk_at "go"
            refine g_addd (dD4.ed eH39 no0) dD5 (w38.ed eH39) (by rw [sizeLine_eq, List.length_map, List.length_map]; have : nh.length ≤ 7 := hnl; simp; omega) fun kq H40 hkq e40 dkq => ?_
            walk_at "go"
            have e3740 : Ed [] H37 H40 := (eH38.tr eH39 no0).tr e40 no0
            refine g_neSelf (W := [sd, vd, l2, b]) (n := 2) dkq (dkp37.ed e3740 no0) (Sd.list (n := 1) fun d hd => ?_) (by decide) ?_
            · rcases List.mem_append.mp hd with hd | hd
              · obtain ⟨s, hs, rfl⟩ := List.mem_map.mp hd
                exact Sd.tuple (n := 0) (Sd.cons (Sd.str (sk (hn s hs))) (Sd.cons (Sd.int _) Sd.nil))
              · obtain ⟨s, hs, rfl⟩ := List.mem_map.mp hd
                exact Sd.tuple (n := 0) (Sd.cons (Sd.str (sk (hh s hs))) (Sd.cons (hst2 s hs) Sd.nil))
            · walk_at "go"
              exact ⟨_, _, _, _, _, _, _, _, _, _, rfl, e2037.tr e3740 no0, hb37.ed e3740 List.not_mem_nil⟩
      · rintro σ' H21 ⟨u12, u13, u14, u15, u16, u17, u18, u19, u20, u21, rfl, e21, hb21⟩
        walk_at "go"
        exact ⟨_, _, _, _, _, _, _, _, _, _, _, _, _, _, _, _, _, _, _, _, _, rfl, e020.tr e21 (edv1 (.inr hbH))⟩
    · rintro σ' H1 ⟨u1, u2, u3, u4, u5, u6, u7, u8, u9, u10, u11, u12, u13, u14, u15, u16, u17, u18, u19, u20, u21, rfl, e1⟩
      walk_at "go"
      exact k _
end
theorem facts {P : Program} {w : World} {K : PySem.W.Frag} {h : Heap} {mg : Str → Option Value} {f : Addr} (X : K.In h) (G : h.Ns mainGlobals mg) (hfa : mg ("law" : Str) = some (.ref f)) (S : SaysN fns ex K) :
    ∃ fd : FuncData, (∀ (s : Shared) (v : Value), BindsTo s fd ⟨[v], []⟩ [("_law_script", v)]) ∧ ∀ base : Heap, K.In base → base.Ns mainGlobals mg → FnOk P w K mg base (L2.CX P w) 9 f fd ["_law_script"] (sp_law K) := by
  have c3 : ((fxB fxs K && (fyB fys K && fzB fzs K)) && (nobB K)) = true := S.more
  rw [Bool.and_eq_true] at c3
  obtain ⟨c3, cm⟩ := c3
  have c1 : (fxB fxs K && (fyB fys K && fzB fzs K)) = true := c3
  have c0 : (fxB fxs K && (fyB fys K && fzB fzs K)) = true := c1
  rw [Bool.and_eq_true, Bool.and_eq_true] at c0
  obtain ⟨c, cy, cz⟩ := c0
  obtain ⟨fd_BadCondition___init__, F_BadCondition___init__⟩ := S.def_ 0 (d := d_BadCondition___init__) rfl
  obtain ⟨fd_law_seed, F_law_seed⟩ := S.def_ 1 (d := d_law_seed) rfl
  obtain ⟨fd_law_take, F_law_take⟩ := S.def_ 2 (d := d_law_take) rfl
  obtain ⟨fd_law_of, F_law_of⟩ := S.def_ 3 (d := d_law_of) rfl
  obtain ⟨fd_is_number, F_is_number⟩ := S.def_ 4 (d := d_is_number) rfl
  obtain ⟨fd_read_sum, F_read_sum⟩ := S.def_ 5 (d := d_read_sum) rfl
  obtain ⟨fd_law_names, F_law_names⟩ := S.def_ 6 (d := d_law_names) rfl
  obtain ⟨fd_Reader_peek, F_Reader_peek⟩ := S.def_ 7 (d := d_Reader_peek) rfl
  obtain ⟨fd_Reader_take, F_Reader_take⟩ := S.def_ 8 (d := d_Reader_take) rfl
  obtain ⟨fd_Reader_sum_terms, F_Reader_sum_terms⟩ := S.def_ 9 (d := d_Reader_sum_terms) rfl
  obtain ⟨fd_Reader_read_atom, F_Reader_read_atom⟩ := S.def_ 10 (d := d_Reader_read_atom) rfl
  obtain ⟨fd_Reader_read_part, F_Reader_read_part⟩ := S.def_ 11 (d := d_Reader_read_part) rfl
  obtain ⟨fd_Reader_read_condition, F_Reader_read_condition⟩ := S.def_ 12 (d := d_Reader_read_condition) rfl
  obtain ⟨fd_Reader___init__, F_Reader___init__⟩ := S.def_ 13 (d := d_Reader___init__) rfl
  obtain ⟨fd_Condition___init__, F_Condition___init__⟩ := S.def_ 14 (d := d_Condition___init__) rfl
  obtain ⟨fd_compares, F_compares⟩ := S.def_ 15 (d := d_compares) rfl
  obtain ⟨fd_sum_of, F_sum_of⟩ := S.def_ 16 (d := d_sum_of) rfl
  obtain ⟨fd_atom_holds, F_atom_holds⟩ := S.def_ 17 (d := d_atom_holds) rfl
  obtain ⟨fd_Condition___call__, F_Condition___call__⟩ := S.def_ 18 (d := d_Condition___call__) rfl
  obtain ⟨fd_law_terms, F_law_terms⟩ := S.def_ 19 (d := d_law_terms) rfl
  obtain ⟨fd_law_sum_text, F_law_sum_text⟩ := S.def_ 20 (d := d_law_sum_text) rfl
  obtain ⟨fd_law_atom, F_law_atom⟩ := S.def_ 21 (d := d_law_atom) rfl
  obtain ⟨fd_law_condition, F_law_condition⟩ := S.def_ 22 (d := d_law_condition) rfl
  obtain ⟨fd_law_atom_text, F_law_atom_text⟩ := S.def_ 23 (d := d_law_atom_text) rfl
  obtain ⟨fd_law_condition_text, F_law_condition_text⟩ := S.def_ 24 (d := d_law_condition_text) rfl
  obtain ⟨fd_law_value, F_law_value⟩ := S.def_ 25 (d := d_law_value) rfl
  obtain ⟨fd_law_compared, F_law_compared⟩ := S.def_ 26 (d := d_law_compared) rfl
  obtain ⟨fd_law_atom_holds, F_law_atom_holds⟩ := S.def_ 27 (d := d_law_atom_holds) rfl
  obtain ⟨fd_law_holds, F_law_holds⟩ := S.def_ 28 (d := d_law_holds) rfl
  obtain ⟨fd_Condition___str__, F_Condition___str__⟩ := S.def_ 29 (d := d_Condition___str__) rfl
  obtain ⟨fd_law, F_law⟩ := S.def_ 30 (d := d_law) rfl
  have T : Txt K mg := ⟨fx_free X G c 20, fx_free X G c 21, fx_free X G c 23, fx_free X G c 25, fx_free X G c 26, fx_free X G c 28, fx_free X G c 29, fx_free X G c 30, fx_free X G c 31, fx_free X G c 32, fx_free X G c 33, fx_free X G c 35, fx_int X G c 2, ⟨_, fx_glo X G c 4, rfl⟩, fun H => fx_tup c 5 (H := H), ⟨_, fx_glo X G c 0, rfl⟩, fx_glo X G c 0, ⟨_, fx_glo X G c 1, rfl⟩, fx_glo X G c 1, ⟨_, fx_glo X G c 3, rfl⟩, fx_glo X G c 3, fx_cls c 47, fx_noat c 49, fx_noat c 50, fx_cls c 40, fx_noat c 42, fx_noat c 43, fx_noat c 44, fx_noat c 45, fx_noat c 46, cm⟩
  have e := hfa.symm.trans (fx_glo X G c 67)
  cases e
  have b_BadCondition___init__ := FunD.bindsN (ps := ["self", "at"]) F_BadCondition___init__ fun _ _ _ _ _ _ us hl => match us, hl with | [_, _], _ => rfl
  have b_law_seed := FunD.bindsN (ps := ["_law_script", "_law_at"]) F_law_seed fun _ _ _ _ _ _ us hl => match us, hl with | [_, _], _ => rfl
  have b_law_take := FunD.bindsN (ps := ["_law_bag", "_law_many"]) F_law_take fun _ _ _ _ _ _ us hl => match us, hl with | [_, _], _ => rfl
  have b_law_of := FunD.bindsN (ps := ["_law_bag", "_law_some"]) F_law_of fun _ _ _ _ _ _ us hl => match us, hl with | [_, _], _ => rfl
  have b_is_number := FunD.bindsN (ps := ["token"]) F_is_number fun _ _ _ _ _ _ us hl => match us, hl with | [_], _ => rfl
  have b_read_sum := FunD.bindsN (ps := ["tokens", "start", "names"]) F_read_sum fun _ _ _ _ _ _ us hl => match us, hl with | [_, _, _], _ => rfl
  have b_law_names := FunD.bindsN (ps := ["_law_bag", "_law_many"]) F_law_names fun _ _ _ _ _ _ us hl => match us, hl with | [_, _], _ => rfl
  have b_Reader_peek := FunD.bindsN (ps := ["self"]) F_Reader_peek fun _ _ _ _ _ _ us hl => match us, hl with | [_], _ => rfl
  have b_Reader_take := FunD.bindsN (ps := ["self", "allowed"]) F_Reader_take fun _ _ _ _ _ _ us hl => match us, hl with | [_, _], _ => rfl
  have b_Reader_sum_terms := FunD.bindsN (ps := ["self"]) F_Reader_sum_terms fun _ _ _ _ _ _ us hl => match us, hl with | [_], _ => rfl
  have b_Reader_read_atom := FunD.bindsN (ps := ["self"]) F_Reader_read_atom fun _ _ _ _ _ _ us hl => match us, hl with | [_], _ => rfl
  have b_Reader_read_part := FunD.bindsN (ps := ["self"]) F_Reader_read_part fun _ _ _ _ _ _ us hl => match us, hl with | [_], _ => rfl
  have b_Reader_read_condition := FunD.bindsN (ps := ["self"]) F_Reader_read_condition fun _ _ _ _ _ _ us hl => match us, hl with | [_], _ => rfl
  have b_Reader___init__ := FunD.bindsN (ps := ["self", "tokens", "names", "handles", "requests"]) F_Reader___init__ fun _ _ _ _ _ _ us hl => match us, hl with | [_, _, _, _, _], _ => rfl
  have b_Condition___init__ := FunD.bindsN (ps := ["self", "text", "names", "handles", "requests"]) F_Condition___init__ fun _ _ _ _ _ _ us hl => match us, hl with | [_, _, _, _, _], _ => rfl
  have b_compares := FunD.bindsN (ps := ["sign", "left", "right"]) F_compares fun _ _ _ _ _ _ us hl => match us, hl with | [_, _, _], _ => rfl
  have b_sum_of := FunD.bindsN (ps := ["terms", "values"]) F_sum_of fun _ _ _ _ _ _ us hl => match us, hl with | [_, _], _ => rfl
  have b_atom_holds := FunD.bindsN (ps := ["atom", "values", "handles", "opened"]) F_atom_holds fun _ _ _ _ _ _ us hl => match us, hl with | [_, _, _, _], _ => rfl
  have b_Condition___call__ := FunD.bindsN (ps := ["self", "values", "handles", "opened"]) F_Condition___call__ fun _ _ _ _ _ _ us hl => match us, hl with | [_, _, _, _], _ => rfl
  have b_law_terms := FunD.bindsN (ps := ["_law_bag", "_law_names_here", "_law_many"]) F_law_terms fun _ _ _ _ _ _ us hl => match us, hl with | [_, _, _], _ => rfl
  have b_law_sum_text := FunD.bindsN (ps := ["_law_terms_here"]) F_law_sum_text fun _ _ _ _ _ _ us hl => match us, hl with | [_], _ => rfl
  have b_law_atom := FunD.bindsN (ps := ["_law_bag", "_law_names_here", "_law_handles", "_law_requests"]) F_law_atom fun _ _ _ _ _ _ us hl => match us, hl with | [_, _, _, _], _ => rfl
  have b_law_condition := FunD.bindsN (ps := ["_law_bag", "_law_names_here", "_law_handles", "_law_requests", "_law_most"]) F_law_condition fun _ _ _ _ _ _ us hl => match us, hl with | [_, _, _, _, _], _ => rfl
  have b_law_atom_text := FunD.bindsN (ps := ["_law_atom_here"]) F_law_atom_text fun _ _ _ _ _ _ us hl => match us, hl with | [_], _ => rfl
  have b_law_condition_text := FunD.bindsN (ps := ["_law_parts"]) F_law_condition_text fun _ _ _ _ _ _ us hl => match us, hl with | [_], _ => rfl
  have b_law_value := FunD.bindsN (ps := ["_law_terms_here", "_law_values"]) F_law_value fun _ _ _ _ _ _ us hl => match us, hl with | [_, _], _ => rfl
  have b_law_compared := FunD.bindsN (ps := ["_law_sign", "_law_left", "_law_right"]) F_law_compared fun _ _ _ _ _ _ us hl => match us, hl with | [_, _, _], _ => rfl
  have b_law_atom_holds := FunD.bindsN (ps := ["_law_atom_here", "_law_values", "_law_handles", "_law_opened"]) F_law_atom_holds fun _ _ _ _ _ _ us hl => match us, hl with | [_, _, _, _], _ => rfl
  have b_law_holds := FunD.bindsN (ps := ["_law_parts", "_law_values", "_law_handles", "_law_opened"]) F_law_holds fun _ _ _ _ _ _ us hl => match us, hl with | [_, _, _, _], _ => rfl
  have b_Condition___str__ := FunD.bindsN (ps := ["self"]) F_Condition___str__ fun _ _ _ _ _ _ us hl => match us, hl with | [_], _ => rfl
  have b_law := FunD.bindsN (ps := ["_law_script"]) F_law fun _ _ _ _ _ _ us hl => match us, hl with | [_], _ => rfl
  have bA := FunD.bindsA (ps := ["_law_script"]) F_law fun _ _ _ _ _ _ us hl => match us, hl with | [_], _ => rfl
  refine ⟨fd_law, fun s v => bA s [v] rfl, fun base _ _ => ?_⟩
  have X_BadCondition : XC P w K mg base 1 "BadCondition" "at" (He.ga K "BadCondition") := ⟨fx_glo X G c 0, fx_oex c 37, fx_noat c 39, _, fd_BadCondition___init__, _, (fx_fnI c 38).1, (fx_fnI c 38).2, b_BadCondition___init__, ok_BadCondition___init__ F_BadCondition___init__ (fx_oex c 37) (fx_noat c 39)⟩
  have C_law_seed : Cal P w K mg base 1 "_law_seed" ["_law_script", "_law_at"] (sp_law_seed K) := ⟨_, fd_law_seed, fx_glo X G c 15, F_law_seed.kp, b_law_seed, ok_law_seed (P := P) (w := w) (base := base) F_law_seed T ⟩
  have C_law_take : Cal P w K mg base 1 "_law_take" ["_law_bag", "_law_many"] (sp_law_take K) := ⟨_, fd_law_take, fx_glo X G c 17, F_law_take.kp, b_law_take, ok_law_take (P := P) (w := w) (base := base) F_law_take T ⟩
  have C_is_number : Cal P w K mg base 1 "is_number" ["token"] (sp_is_number K) := ⟨_, fd_is_number, fx_glo X G c 27, F_is_number.kp, b_is_number, ok_is_number (P := P) (w := w) (base := base) F_is_number T ⟩
  have N_Reader_peek : MtC P w K mg base 1 (He.ga K "Reader") "peek" ["self"] (sp_Reader_peek K) := ⟨fx_cls c 40, _, fd_Reader_peek, fx_meth c 51, fx_fnF c 52, b_Reader_peek, ok_Reader_peek (P := P) (w := w) (base := base) F_Reader_peek T ⟩
  have M_Reader : MkC P w K mg base 1 "Reader" (He.ga K "Reader") ["self", "tokens", "names", "handles", "requests"] (sp_Reader___init__ K) := ⟨fx_glo X G c 3, _, fd_Reader___init__, fx_mkr c 41, b_Reader___init__, ok_Reader___init__ (P := P) (w := w) (base := base) F_Reader___init__ T ⟩
  have C_compares : Cal P w K mg base 1 "compares" ["sign", "left", "right"] (sp_compares K) := ⟨_, fd_compares, fx_glo X G c 24, F_compares.kp, b_compares, ok_compares (P := P) (w := w) (base := base) F_compares T ⟩
  have C_sum_of : Cal P w K mg base 1 "sum_of" ["terms", "values"] (sp_sum_of K) := ⟨_, fd_sum_of, fx_glo X G c 36, F_sum_of.kp, b_sum_of, ok_sum_of (P := P) (w := w) (base := base) F_sum_of T ⟩
  have C_law_sum_text : Cal P w K mg base 1 "_law_sum_text" ["_law_terms_here"] (sp_law_sum_text K) := ⟨_, fd_law_sum_text, fx_glo X G c 16, F_law_sum_text.kp, b_law_sum_text, ok_law_sum_text (P := P) (w := w) (base := base) F_law_sum_text T ⟩
  have C_law_value : Cal P w K mg base 1 "_law_value" ["_law_terms_here", "_law_values"] (sp_law_value K) := ⟨_, fd_law_value, fx_glo X G c 19, F_law_value.kp, b_law_value, ok_law_value (P := P) (w := w) (base := base) F_law_value T ⟩
  have C_law_compared : Cal P w K mg base 1 "_law_compared" ["_law_sign", "_law_left", "_law_right"] (sp_law_compared K) := ⟨_, fd_law_compared, fx_glo X G c 9, F_law_compared.kp, b_law_compared, ok_law_compared (P := P) (w := w) (base := base) F_law_compared T ⟩
  have N_Condition___str__ : MtC P w K mg base 1 (He.ga K "Condition") "__str__" ["self"] (sp_Condition___str__ K) := ⟨fx_cls c 47, _, fd_Condition___str__, fx_meth c 65, fx_fnF c 66, b_Condition___str__, ok_Condition___str__ (P := P) (w := w) (base := base) F_Condition___str__ T ⟩
  have C_law_of : Cal P w K mg base 2 "_law_of" ["_law_bag", "_law_some"] (sp_law_of K) := ⟨_, fd_law_of, fx_glo X G c 14, F_law_of.kp, b_law_of, ok_law_of (P := P) (w := w) (base := base) F_law_of T C_law_take⟩
  have R_law_of : OfC P w K mg base 2 "_law_of" := ⟨_, fx_glo X G c 14, F_law_of.kp, ofr_law_of (P := P) (w := w) (base := base) F_law_of b_law_of T C_law_take⟩
  have C_read_sum : Cal P w K mg base 2 "read_sum" ["tokens", "start", "names"] (sp_read_sum K) := ⟨_, fd_read_sum, fx_glo X G c 34, F_read_sum.kp, b_read_sum, ok_read_sum (P := P) (w := w) (base := base) F_read_sum T C_is_number⟩
  have C_atom_holds : Cal P w K mg base 2 "atom_holds" ["atom", "values", "handles", "opened"] (sp_atom_holds K) := ⟨_, fd_atom_holds, fx_glo X G c 22, F_atom_holds.kp, b_atom_holds, ok_atom_holds (P := P) (w := w) (base := base) F_atom_holds T C_compares C_sum_of⟩
  have C_law_atom_text : Cal P w K mg base 2 "_law_atom_text" ["_law_atom_here"] (sp_law_atom_text K) := ⟨_, fd_law_atom_text, fx_glo X G c 8, F_law_atom_text.kp, b_law_atom_text, ok_law_atom_text (P := P) (w := w) (base := base) F_law_atom_text T C_law_sum_text⟩
  have C_law_atom_holds : Cal P w K mg base 2 "_law_atom_holds" ["_law_atom_here", "_law_values", "_law_handles", "_law_opened"] (sp_law_atom_holds K) := ⟨_, fd_law_atom_holds, fx_glo X G c 7, F_law_atom_holds.kp, b_law_atom_holds, ok_law_atom_holds (P := P) (w := w) (base := base) F_law_atom_holds T C_law_compared C_law_value⟩
  have C_law_names : Cal P w K mg base 3 "_law_names" ["_law_bag", "_law_many"] (sp_law_names K) := ⟨_, fd_law_names, fx_glo X G c 13, F_law_names.kp, b_law_names, ok_law_names (P := P) (w := w) (base := base) F_law_names T C_law_of C_law_take⟩
  have N_Reader_take : MtC P w K mg base 3 (He.ga K "Reader") "take" ["self", "allowed"] (sp_Reader_take K) := ⟨fx_cls c 40, _, fd_Reader_take, fx_meth c 53, fx_fnF c 54, b_Reader_take, ok_Reader_take (P := P) (w := w) (base := base) F_Reader_take T N_Reader_peek X_BadCondition⟩
  have N_Reader_sum_terms : MtC P w K mg base 3 (He.ga K "Reader") "sum_terms" ["self"] (sp_Reader_sum_terms K) := ⟨fx_cls c 40, _, fd_Reader_sum_terms, fx_meth c 55, fx_fnF c 56, b_Reader_sum_terms, ok_Reader_sum_terms (P := P) (w := w) (base := base) F_Reader_sum_terms T C_read_sum X_BadCondition⟩
  have N_Condition___call__ : MtC P w K mg base 3 (He.ga K "Condition") "__call__" ["self", "values", "handles", "opened"] (sp_Condition___call__ K) := ⟨fx_cls c 47, _, fd_Condition___call__, fx_meth c 63, fx_fnF c 64, b_Condition___call__, ok_Condition___call__ (P := P) (w := w) (base := base) F_Condition___call__ T C_atom_holds⟩
  have C_law_terms : Cal P w K mg base 3 "_law_terms" ["_law_bag", "_law_names_here", "_law_many"] (sp_law_terms K) := ⟨_, fd_law_terms, fx_glo X G c 18, F_law_terms.kp, b_law_terms, ok_law_terms (P := P) (w := w) (base := base) F_law_terms T C_law_of C_law_take⟩
  have C_law_condition_text : Cal P w K mg base 3 "_law_condition_text" ["_law_parts"] (sp_law_condition_text K) := ⟨_, fd_law_condition_text, fx_glo X G c 11, F_law_condition_text.kp, b_law_condition_text, ok_law_condition_text (P := P) (w := w) (base := base) F_law_condition_text T C_law_atom_text⟩
  have C_law_holds : Cal P w K mg base 3 "_law_holds" ["_law_parts", "_law_values", "_law_handles", "_law_opened"] (sp_law_holds K) := ⟨_, fd_law_holds, fx_glo X G c 12, F_law_holds.kp, b_law_holds, ok_law_holds (P := P) (w := w) (base := base) F_law_holds T C_law_atom_holds⟩
  have N_Reader_read_atom : MtC P w K mg base 4 (He.ga K "Reader") "read_atom" ["self"] (sp_Reader_read_atom K) := ⟨fx_cls c 40, _, fd_Reader_read_atom, fx_meth c 57, fx_fnF c 58, b_Reader_read_atom, ok_Reader_read_atom (P := P) (w := w) (base := base) F_Reader_read_atom T N_Reader_peek N_Reader_sum_terms N_Reader_take⟩
  have C_law_atom : Cal P w K mg base 4 "_law_atom" ["_law_bag", "_law_names_here", "_law_handles", "_law_requests"] (sp_law_atom K) := ⟨_, fd_law_atom, fx_glo X G c 6, F_law_atom.kp, b_law_atom, ok_law_atom (P := P) (w := w) (base := base) F_law_atom T C_law_of C_law_terms⟩
  have N_Reader_read_part : MtC P w K mg base 5 (He.ga K "Reader") "read_part" ["self"] (sp_Reader_read_part K) := ⟨fx_cls c 40, _, fd_Reader_read_part, fx_meth c 59, fx_fnF c 60, b_Reader_read_part, ok_Reader_read_part (P := P) (w := w) (base := base) F_Reader_read_part T N_Reader_peek N_Reader_read_atom⟩
  have C_law_condition : Cal P w K mg base 5 "_law_condition" ["_law_bag", "_law_names_here", "_law_handles", "_law_requests", "_law_most"] (sp_law_condition K) := ⟨_, fd_law_condition, fx_glo X G c 10, F_law_condition.kp, b_law_condition, ok_law_condition (P := P) (w := w) (base := base) F_law_condition T C_law_atom C_law_take⟩
  have N_Reader_read_condition : MtC P w K mg base 6 (He.ga K "Reader") "read_condition" ["self"] (sp_Reader_read_condition K) := ⟨fx_cls c 40, _, fd_Reader_read_condition, fx_meth c 61, fx_fnF c 62, b_Reader_read_condition, ok_Reader_read_condition (P := P) (w := w) (base := base) F_Reader_read_condition T N_Reader_peek N_Reader_read_part⟩
  have M_Condition : MkC P w K mg base 7 "Condition" (He.ga K "Condition") ["self", "text", "names", "handles", "requests"] (sp_Condition___init__ K) := ⟨fx_glo X G c 1, _, fd_Condition___init__, fx_mkr c 48, b_Condition___init__, ok_Condition___init__ (P := P) (w := w) (base := base) F_Condition___init__ T M_Reader N_Reader_read_condition X_BadCondition⟩
  exact ok_law (P := P) (w := w) (base := base) F_law T C_law_condition C_law_condition_text C_law_holds C_law_names C_law_of C_law_seed C_law_take N_Condition___call__ M_Condition R_law_of N_Condition___str__
end NL
open PySem PySem.W PySem.Calls PyProof.Rows
set_option maxHeartbeats 0 in
theorem PySem.Challenge.cw_nowlater_k03_conditions_holds : PySem.Challenge.rw_nowlater_k03_conditions.Holds := by
  refine NL.early ?hc
  case hc =>
    refine LamX.walk_ofTsE (l := PySem.Challenge.rw_nowlater_k03_conditions) (n := 63) (k := 9) (x := "_law_script") (CX := fun w => L2.CX (PySem.Challenge.rw_nowlater_k03_conditions).prog w) rfl (by decide) (by kernel_rfl) ⟨rfl, by decide, by decide⟩ ?F NL.hCX
    intro w mg fa h Y G hmg0
    obtain ⟨K, KX, S⟩ := Y
    have hmg : mg ("law" : PySem.Str) = some (.ref fa) := by
      have e : (HandSHeadRun.topDef NL.RR.prog 28).name = ("law" : PySem.Str) := by kernel_rfl
      rw [← e]
      exact hmg0
    obtain ⟨fd, hb, hF⟩ := NL.facts (P := (PySem.Challenge.rw_nowlater_k03_conditions).prog) (w := w) KX G hmg S
    exact ⟨K, KX, fd, [], NL.sp_law K, (fun _ z => nomatch z), (fun _ z => nomatch z), (fun _ z => nomatch z), hb, fun H a ns hl hbits _ hS => ⟨a, ns, rfl, hS, hl, hbits, fun _ => rfl⟩, fun base h1 h2 _ => hF base h1 h2⟩
#print axioms PySem.Challenge.cw_nowlater_k03_conditions_holds
