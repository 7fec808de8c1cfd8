import PyProof.Rows.All
import Wide.All
import OpenK.AllK
import Wide.FinOn
import HandS.ForMost
import HandS.ForExc
import HandS.Flow
import HandS.Wide
import HandS.IsInst
import HandS.ExcIs
import HandS.ExcField
import HandS.RaiseMore
import HandS.Star
import HandS.EndBits
import HandS.Walk
import HandS.NoneIn
import HandS.ExcInit
import KE.KExcIs
import KE.KStateDown
import Lean
import HandS.Defaults
import HandS.Head0
import HandS.Head1
import HandS.Head2
import HandS.HeadEnd
import HandS.HeadHook1
import HandS.HeadHook2
import HandS.HeadHook3
import HandS.HeadHook4
import HandS.EndTab
import HandS.HeadWalk
import PyProof.RulesMatch
import KE.KCallOwn
import HandS.Dict
import HandS.Strs
import HandS.Sort
import HandS.TupAny
import HandS.HeadNt
import HandS.ClsMeth
import HandS.CallLocal
import HandS.Conv
import HandS.Codes
import KE.KUnpackStar
import HandS.Style
import HandS.More
import PyProof.ListStr
import HandS.TupLen
import HandS.Zip
import HandS.TryOnly
import KE.KWords
import HandS.StrSplit
import PySem.Challenge.RW_nowlater_k11_names
set_option Elab.async false
set_option linter.all false
set_option maxRecDepth 100000
set_option maxHeartbeats 4000000
namespace NL
open PySem L2

/-! ### step lemmas: one a reading -/
section
variable {σ : L2.St} {H : Hp} {D : Ends} {i : Nat} {v : V} {Q : VK} {QB : Bool → Hp → Prop} {QA : List V → Hp → Prop}
theorem g_var (e : σ[i]? = some (some v)) (h : Q v H) : tVar i σ H Q := ⟨v, e, h⟩
theorem g_c (h : Q v H) : tC v σ H Q := h
theorem g_op {r : R2} {ta tb : TE} (h : ta σ H fun x H1 => tb σ H1 fun y H2 => r x y H2 Q) : tOp r ta tb σ H Q := h
theorem g_un {r : V → Hp → VK → Prop} {ta : TE} (h : ta σ H fun x H1 => r x H1 Q) : tUn r ta σ H Q := h
theorem g_test {te : TE} (h : te σ H fun x H' => ∃ k, x = .bl k ∧ QB k H') : tTest te σ H QB := h
theorem g_tb {te : TE} (h : te σ H fun x H' => ∃ k, x = .bl k ∧ QB k H') : tB te σ H QB := h
theorem g_bl {b : Bool} {PB : Bool → Prop} (h : PB b) : ∃ k, V.bl b = .bl k ∧ PB k := ⟨b, rfl, h⟩
theorem g_not {t : TT} (h : t σ H fun c H1 => QB (!c) H1) : tNot t σ H QB := h
theorem g_and {t u : TT} (h : t σ H fun c H1 => if c = true then u σ H1 QB else QB false H1) : tAnd t u σ H QB := h
theorem g_or {t u : TT} (h : t σ H fun c H1 => if c = true then QB true H1 else u σ H1 QB) : tOr t u σ H QB := h
theorem g_andT {K : PySem.W.Frag} {ta tb : TE} (h : ta σ H fun x H1 => ∃ k, TruV K x H1 k ∧ if k = true then tb σ H1 Q else Q x H1) : tAndT K ta tb σ H Q := h
theorem g_orT {K : PySem.W.Frag} {ta tb : TE} (h : ta σ H fun x H1 => ∃ k, TruV K x H1 k ∧ if k = true then Q x H1 else tb σ H1 Q) : tOrT K ta tb σ H Q := h
theorem g_notT {K : PySem.W.Frag} {ta : TE} (h : ta σ H fun x H1 => ∃ k, TruV K x H1 k ∧ Q (.bl (!k)) H1) : tNotT K ta σ H Q := h
theorem g_ifE {t : TT} {ta tb : TE} (h : t σ H fun c H1 => if c = true then ta σ H1 Q else tb σ H1 Q) : tIf t ta tb σ H Q := h
theorem g_cb {r : List V → Hp → VK → Prop} {t : TA} (h : t σ H fun vs H1 => r vs H1 Q) : tCB r t σ H Q := h
theorem g_nil (h : QA [] H) : tNil σ H QA := h
theorem g_cons {ta : TE} {tr : TA} (h : ta σ H fun x H1 => tr σ H1 fun xs H2 => QA (x :: xs) H2) : tCons ta tr σ H QA := h
theorem g_callS {sp : Sp} {E : L2.St → XK} {t : TA} (h : t σ H fun vs H1 => sp vs H1 Q (E σ)) : tCallS sp E t σ H Q := h
/-- statements; the ends by places -/
theorem g_seq {t u : TS} {nx : L2.St → Hp → Prop} {rt : VK} {bk ct : L2.St → Hp → Prop} (h : t ⟨u ⟨nx, rt, bk, ct⟩, rt, bk, ct⟩ σ H) : tSeq t u ⟨nx, rt, bk, ct⟩ σ H := h
theorem g_next {nx : L2.St → Hp → Prop} {rt : VK} {bk ct : L2.St → Hp → Prop} (h : nx σ H) : tNext ⟨nx, rt, bk, ct⟩ σ H := h
theorem g_brk {nx : L2.St → Hp → Prop} {rt : VK} {bk ct : L2.St → Hp → Prop} (h : bk σ H) : tBreak ⟨nx, rt, bk, ct⟩ σ H := h
theorem g_cont {nx : L2.St → Hp → Prop} {rt : VK} {bk ct : L2.St → Hp → Prop} (h : ct σ H) : tCont ⟨nx, rt, bk, ct⟩ σ H := h
theorem g_asg {te : TE} {g : TG} {nx : L2.St → Hp → Prop} {rt : VK} {bk ct : L2.St → Hp → Prop} (h : te σ H fun x H1 => g x σ H1 nx) : tAsg te g ⟨nx, rt, bk, ct⟩ σ H := h
theorem g_drop {te : TE} {nx : L2.St → Hp → Prop} {rt : VK} {bk ct : L2.St → Hp → Prop} (h : te σ H fun _ H1 => nx σ H1) : tDrop te ⟨nx, rt, bk, ct⟩ σ H := h
theorem g_ret {te : TE} {nx : L2.St → Hp → Prop} {rt : VK} {bk ct : L2.St → Hp → Prop} (h : te σ H rt) : tRet te ⟨nx, rt, bk, ct⟩ σ H := h
theorem g_retN {nx : L2.St → Hp → Prop} {rt : VK} {bk ct : L2.St → Hp → Prop} (h : rt .non H) : tRetN ⟨nx, rt, bk, ct⟩ σ H := h
theorem g_ifS {c : TT} {t u : TS} (h : c σ H fun b H1 => if b = true then t D σ H1 else u D σ H1) : tIfS c t u D σ H := h
theorem g_name {QS : L2.St → Hp → Prop} (h : QS (σ.set i (some v)) H) : gName i v σ H QS := h
theorem g_nameE {σ' : L2.St} {QS : L2.St → Hp → Prop} (e : σ.set i (some v) = σ') (h : QS σ' H) : gName i v σ H QS := by subst e; exact h
theorem wipe_nil (σ : L2.St) : wipe σ [] = σ := rfl
theorem wipe_cons (σ : L2.St) (i : Nat) (r : List Nat) : wipe σ (i :: r) = (wipe σ r).set i none := rfl
theorem g_sub {QS : L2.St → Hp → Prop} {to ti : TE} {t : TSet} (h : to σ H fun o H1 => ti σ H1 fun i H2 => t o i v H2 fun H3 => QS σ H3) : gSub to ti t v σ H QS := h
theorem g_augE {x : V} {te : TE} {ti : TIp} {nx : L2.St → Hp → Prop} {rt : VK} {bk ct : L2.St → Hp → Prop} (e : σ[i]? = some (some x)) (h : te σ H fun y H1 => ti x y H1 fun z H2 => gName i z σ H2 nx) : tAug i te ti ⟨nx, rt, bk, ct⟩ σ H := ⟨x, e, h⟩
theorem g_aug {x : V} {te : TE} {ti : TIp} {nx : L2.St → Hp → Prop} {rt : VK} {bk ct : L2.St → Hp → Prop} (e : σ[i]? = some (some x)) (h : te σ H fun y H1 => ti x y H1 fun z H2 => nx (σ.set i (some z)) H2) : tAug i te ti ⟨nx, rt, bk, ct⟩ σ H := ⟨x, e, h⟩
/-- a tuple or a list unpacked -/
def gTL (K : PySem.W.Frag) (n : Nat) (t : TGs) : TG := fun v σ H Q => ∃ a xs, v = .ref a ∧ (SqT K H a xs ∨ SqL K H a xs) ∧ xs.length = n ∧ t xs σ H Q
theorem g_gtupL {K : PySem.W.Frag} {n : Nat} {t : TGs} {a : Addr} {xs : List V} {QS : L2.St → Hp → Prop} (h1 : SqL K H a xs) (h2 : xs.length = n) (h : t xs σ H QS) : gTL K n t (.ref a) σ H QS := ⟨a, xs, rfl, .inr h1, h2, h⟩
theorem g_gtup {K : PySem.W.Frag} {n : Nat} {t : TGs} {a : Addr} {xs : List V} {QS : L2.St → Hp → Prop} (h1 : SqT K H a xs) (h2 : xs.length = n) (h : t xs σ H QS) : gTL K n t (.ref a) σ H QS := ⟨a, xs, rfl, .inl h1, h2, h⟩
theorem g_gcons {t : TG} {u : TGs} {r : List V} {QS : L2.St → Hp → Prop} (h : t v σ H fun σ' H' => u r σ' H' QS) : gCons t u (v :: r) σ H QS := ⟨v, r, rfl, h⟩
theorem g_gnil {QS : L2.St → Hp → Prop} (h : QS σ H) : gNil [] σ H QS := ⟨rfl, h⟩
theorem g_lst {t : TA} (h : t σ H fun xs H1 => xs.length ≤ sizeLine ∧ ∀ p, H1 p = none → Q (.ref p) (upd H1 p (.lst xs))) : tLst t σ H Q := h
theorem g_tup {t : TA} (h : t σ H fun xs H1 => xs.length ≤ sizeLine ∧ ∀ p, H1 p = none → Q (.ref p) (upd H1 p (.tup xs))) : tTup t σ H Q := h
theorem g_ite {b : Bool} {A B : Prop} (h1 : b = true → A) (h2 : b = false → B) : if b = true then A else B := by
  cases b
  · exact iteF (h2 rfl)
  · exact iteT (h1 rfl)
theorem g_iteD {c A B : Prop} [Decidable c] (h1 : c → A) (h2 : ¬ c → B) : if decide c = true then A else B :=
  g_ite (fun e => h1 (of_decide_eq_true e)) fun e => h2 (of_decide_eq_false e)
theorem g_iteN {c A B : Prop} [Decidable c] (h1 : ¬ c → A) (h2 : c → B) : if (!decide c) = true then A else B :=
  g_ite (fun e => h1 (by intro z; rw [decide_eq_true z] at e; cases e)) fun e => h2 (by
    by_cases z : c
    · exact z
    · rw [decide_eq_false z] at e; cases e)
theorem g_iteT {b : Bool} {A B : Prop} (e : b = true) (h : A) : if b = true then A else B := by rw [e]; exact iteT h
theorem g_iteF {b : Bool} {A B : Prop} (e : b = false) (h : B) : if b = true then A else B := by rw [e]; exact iteF h
end

/-! ### rules by the values' own kinds -/
theorem opR_imp {X : Cx} {f : Value → Value → Sem Value} {r r' : R2} (h : OpR X f r) (i : ∀ x y H Q, r' x y H Q → r x y H Q) : OpR X f r' := fun pins s σ H x y v u Q I rx ry q => h pins s σ H x y v u Q I rx ry (i x y H Q q)
theorem callR_imp {X : Cx} {f : Value} {r r' : List V → Hp → VK → Prop} (h : CallR X f r) (i : ∀ xs H Q, r' xs H Q → r xs H Q) : CallR X f r' := fun pins s σ H xs us Q I rx q => h pins s σ H xs us Q I rx (i xs H Q q)

def dAdd : R2 := fun x y H Q => match x, y with
  | .int i, .int j => Q (.int (i + j)) H
  | .str a, .str b => a.length + b.length ≤ sizeLine ∧ Q (.str (a ++ b)) H
  | .ref p, .ref q => ∃ xs ys, H p = some (.lst xs) ∧ H q = some (.lst ys) ∧ xs.length + ys.length ≤ sizeLine ∧ ∀ l, H l = none → Q (.ref l) (upd H l (.lst (xs ++ ys)))
  | _, _ => False
theorem op_dAdd {X : Cx} : OpR X (binaryOp .Add) dAdd := by
  intro pins s σ H x y v u Q I rx ry h
  cases x <;> cases y <;> first
    | exact op_add pins s σ H _ _ v u Q I rx ry ⟨_, _, rfl, rfl, h⟩
    | exact op_add_str pins s σ H _ _ v u Q I rx ry ⟨_, _, rfl, rfl, h.1, h.2⟩
    | (obtain ⟨xs, ys, h1, h2, h3, h4⟩ := h
       exact op_cat pins s σ H _ _ v u Q I rx ry ⟨_, _, _, _, rfl, rfl, h1, h2, h3, h4⟩)
    | exact (show False from h).elim
def dSub : R2 := fun x y H Q => match x, y with
  | .int i, .int j => Q (.int (i - j)) H
  | _, _ => False
theorem op_dSub {X : Cx} : OpR X (binaryOp .Sub) dSub := opR_imp op_sub fun x y H Q h => by
  cases x <;> cases y <;> first
    | exact ⟨_, _, rfl, rfl, h⟩
    | exact (show False from h).elim
def dMul : R2 := fun x y H Q => match x, y with
  | .int i, .int j => (CMul i j ∨ CMulW i j) ∧ Q (.int (i * j)) H
  | .ref p, .int k => ∃ xs, H p = some (.lst xs) ∧ -(2 ^ 63) ≤ k ∧ k < 2 ^ 63 ∧ xs.length * k.toNat ≤ sizeLine ∧ ∀ l, H l = none → Q (.ref l) (upd H l (.lst (List.replicate k.toNat xs).flatten))
  | .str a, .int n => MulOk a n ∧ Q (.str (Txt.mul a n)) H
  | _, _ => False
theorem op_mulS {X : Cx} : OpR X (binaryOp .Mult) (fun x y H Q => ∃ a n, x = .str a ∧ y = .int n ∧ MulOk a n ∧ Q (.str (Txt.mul a n)) H) := by
  intro pins s σ H x y v u Q I rx ry h
  obtain ⟨a, n, rfl, rfl, h1, h2⟩ := h
  obtain ⟨t, rfl⟩ := (show ∃ t, v = Value.str a t from rx)
  obtain ⟨t2, rfl⟩ := (show ∃ t, u = Value.int n t from ry)
  exact SB.mul h1 fun t' k => ⟨.str (Txt.mul a n), H, I.tok k, ⟨t', rfl⟩, h2⟩
def dMod : R2 := fun x y H Q => match x, y with
  | .int i, .int j => 0 < j ∧ Q (.int (i % j)) H
  | _, _ => False
theorem op_dMod {X : Cx} : OpR X (binaryOp .Mod) dMod := opR_imp op_mod fun x y H Q h => by
  cases x <;> cases y <;> first
    | exact ⟨_, _, rfl, rfl, h.1, h.2⟩
    | exact (show False from h).elim
def dDiv : R2 := fun x y H Q => match x, y with
  | .int i, .int j => (0 < j ∧ j.natAbs.log2 < 9000) ∧ Q (.int (i / j)) H
  | _, _ => False
theorem op_dDiv {X : Cx} : OpR X (binaryOp .FloorDiv) dDiv := opR_imp op_fdivW fun x y H Q h => by
  cases x <;> cases y <;> first
    | exact ⟨_, _, rfl, rfl, h.1, h.2⟩
    | exact (show False from h).elim
theorem op_dMul {X : Cx} : OpR X (binaryOp .Mult) dMul := by
  intro pins s σ H x y v u Q I rx ry h
  cases x <;> cases y <;> first
    | (rcases h with ⟨h | h, q⟩
       · exact op_mul pins s σ H _ _ v u Q I rx ry ⟨_, _, rfl, rfl, h, q⟩
       · exact op_mulW pins s σ H _ _ v u Q I rx ry ⟨_, _, rfl, rfl, h, q⟩)
    | (obtain ⟨xs, h1, h2, h3, h4, h5⟩ := h
       exact op_rep pins s σ H _ _ v u Q I rx ry ⟨_, _, _, rfl, rfl, h1, h2, h3, h4, h5⟩)
    | exact op_mulS pins s σ H _ _ v u Q I rx ry ⟨_, _, rfl, rfl, h⟩
    | exact (show False from h).elim
def dPow : R2 := fun x y H Q => match x, y with
  | .int i, .int j => CPow i j ∧ Q (.int (i ^ j.toNat)) H
  | _, _ => False
theorem op_dPow {X : Cx} : OpR X (binaryOp .Pow) dPow := opR_imp op_pow fun x y H Q h => by
  cases x <;> cases y <;> first
    | exact ⟨_, _, rfl, rfl, h.1, h.2⟩
    | exact (show False from h).elim
/-- comparisons of ints -/
def dCmp (f : Int → Int → Bool) : R2 := fun x y H Q => match x, y with
  | .int i, .int j => Q (.bl (f i j)) H
  | _, _ => False
abbrev dLt := dCmp fun i j => decide (i < j)
abbrev dLe := dCmp fun i j => decide (i ≤ j)
abbrev dGt := dCmp fun i j => decide (j < i)
abbrev dGe := dCmp fun i j => decide (j ≤ i)
theorem dCmp_imp {f : Int → Int → Bool} (x y : V) (H : Hp) (Q : VK) (h : dCmp f x y H Q) : (rI0 fun i j => .bl (f i j)) x y H Q := by
  cases x <;> cases y <;> first
    | exact ⟨_, _, rfl, rfl, h⟩
    | exact (show False from h).elim
theorem op_dLt {X : Cx} : OpR X (compareOp .Lt) dLt := opR_imp op_lt dCmp_imp
theorem op_dLe {X : Cx} : OpR X (compareOp .LtE) dLe := opR_imp op_le dCmp_imp
theorem op_dGt {X : Cx} : OpR X (compareOp .Gt) dGt := opR_imp op_gt dCmp_imp
theorem op_dGe {X : Cx} : OpR X (compareOp .GtE) dGe := opR_imp op_ge dCmp_imp
/-- == and != : scalars, or data -/
def dEq (K : PySem.W.Frag) : R2 := fun x y H Q => rEq x y H Q ∨ rEqD K x y H Q
def dNe (K : PySem.W.Frag) : R2 := fun x y H Q => rNe x y H Q ∨ rNeD K x y H Q
theorem op_dEq0 {X : Cx} (hu : X.A.units + 64 < cLine) : OpR X (compareOp .Eq) (dEq X.K) := OpR.or op_eq (op_eqD hu)
theorem op_dNe0 {X : Cx} (hu : X.A.units + 64 < cLine) : OpR X (compareOp .NotEq) (dNe X.K) := OpR.or op_ne (op_neD hu)
/-- in, not in: one sign in a text; a flat thing in a list or tuple -/
def dIn (K : PySem.W.Frag) : R2 := fun x y H Q => match y with
  | .str z => ∃ c : Nat, x = .str ⟨#[c]⟩ ∧ Q (.bl (decide (c ∈ z.cps.toList))) H
  | .ref p => ∃ xs, (SqL K H p xs ∨ SqT K H p xs) ∧ flatV x = true ∧ xs.all flatV = true ∧ Q (.bl (inV x xs)) H
  | _ => False
def dNotIn (K : PySem.W.Frag) : R2 := fun x y H Q => match y with
  | .str z => ∃ c : Nat, x = .str ⟨#[c]⟩ ∧ Q (.bl (!decide (c ∈ z.cps.toList))) H
  | .ref p => ∃ xs, (SqL K H p xs ∨ SqT K H p xs) ∧ flatV x = true ∧ xs.all flatV = true ∧ Q (.bl (!inV x xs)) H
  | _ => False
theorem op_dIn0 {X : Cx} : OpR X (compareOp .In) (dIn X.K) := by
  intro pins s σ H x y v u Q I rx ry h
  cases y with
  | str z =>
    obtain ⟨c, e, q⟩ := h
    exact op_in_sign pins s σ H _ _ v u Q I rx ry ⟨c, z, e, rfl, q⟩
  | ref p =>
    obtain ⟨xs, h1, h2, h3, q⟩ := h
    exact op_in_seq pins s σ H _ _ v u Q I rx ry ⟨p, xs, rfl, h1, h2, h3, q⟩
  | _ => exact (show False from h).elim
theorem op_dNotIn0 {X : Cx} : OpR X (compareOp .NotIn) (dNotIn X.K) := by
  intro pins s σ H x y v u Q I rx ry h
  cases y with
  | str z =>
    obtain ⟨c, e, q⟩ := h
    exact op_notIn_sign pins s σ H _ _ v u Q I rx ry ⟨c, z, e, rfl, q⟩
  | ref p =>
    obtain ⟨xs, h1, h2, h3, q⟩ := h
    exact op_notIn_seq pins s σ H _ _ v u Q I rx ry ⟨p, xs, rfl, h1, h2, h3, q⟩
  | _ => exact (show False from h).elim
def dIs : R2 := fun x y H Q => match y with
  | .non => Q (.bl (decide (x = .non))) H
  | _ => False
def dIsNot : R2 := fun x y H Q => match y with
  | .non => Q (.bl (!decide (x = .non))) H
  | _ => False
theorem op_dIs {X : Cx} : OpR X (compareOp .Is) dIs := opR_imp op_isN fun x y H Q h => by
  cases y <;> first
    | exact ⟨rfl, h⟩
    | exact (show False from h).elim
theorem op_dIsNot {X : Cx} : OpR X (compareOp .IsNot) dIsNot := opR_imp op_notN fun x y H Q h => by
  cases y <;> first
    | exact ⟨rfl, h⟩
    | exact (show False from h).elim
/-! ### built-in calls -/
def dLen (K : PySem.W.Frag) : List V → Hp → VK → Prop := fun xs H Q => match xs with
  | [.str y] => y.length ≤ sizeLine ∧ Q (.int y.length) H
  | [.ref p] => ∃ ys, (SqL K H p ys ∨ SqT K H p ys) ∧ Q (.int ys.length) H
  | _ => False
theorem cl_len0 {X : Cx} : CallR X (.builtin "len") (dLen X.K) := by
  intro pins s σ H xs us Q I r h
  match xs, h with
  | [.str y], h => exact call_len_str pins s σ H _ us Q I r ⟨y, rfl, h.1, h.2⟩
  | [.ref p], h =>
    obtain ⟨ys, h1, q⟩ := h
    exact call_len_seq pins s σ H _ us Q I r ⟨p, ys, rfl, h1, q⟩
def dInt : List V → Hp → VK → Prop := fun xs H Q => match xs with
  | [.int i] => Q (.int i) H
  | [.bl k] => Q (.int (if k then 1 else 0)) H
  | [.str a] => ∃ n, PySem.intText? a = some n ∧ a.length ≤ 640 ∧ Q (.int n) H
  | _ => False
theorem cl_int {X : Cx} : CallR X (.type "int") dInt := by
  intro pins s σ H xs us Q I r h
  match xs, h with
  | [.int i], h => exact call_int1 pins s σ H _ us Q I r (.inl ⟨i, rfl, h⟩)
  | [.bl k], h => exact call_int1 pins s σ H _ us Q I r (.inr ⟨k, rfl, h⟩)
  | [.str a], h =>
    obtain ⟨n, h1, h2, q⟩ := h
    exact call_int_str pins s σ H _ us Q I r ⟨a, n, rfl, h1, h2, q⟩
def dStr : List V → Hp → VK → Prop := fun xs H Q => match xs with
  | [.int i] => i.natAbs.log2 < 1920 ∧ Q (.str (toString i)) H
  | [.str a] => Q (.str a) H
  | _ => False
theorem cl_str {X : Cx} : CallR X (.type "str") dStr := by
  intro pins s σ H xs us Q I r h
  match xs, h with
  | [.int i], h => exact call_str_int pins s σ H _ us Q I r ⟨i, rfl, h.1, h.2⟩
  | [.str a], h => exact SkE.call_str_str pins s σ H _ us Q I r ⟨a, rfl, h⟩
def dAbs : List V → Hp → VK → Prop := fun xs H Q => match xs with
  | [.int i] => Q (.int (if i < 0 then -i else i)) H
  | _ => False
theorem cl_abs {X : Cx} : CallR X (.builtin "abs") dAbs := by
  intro pins s σ H xs us Q I r h
  match xs, h with
  | [.int i], h => exact call_abs pins s σ H _ us Q I r ⟨i, rfl, h⟩
def dMax : List V → Hp → VK → Prop := fun xs H Q => match xs with
  | [.int i, .int j] => Q (.int (if j > i then j else i)) H
  | _ => False
theorem cl_max {X : Cx} (hc : X.calm = true) : CallR X (.builtin "max") dMax := by
  intro pins s σ H xs us Q I r h
  match xs, h with
  | [.int i, .int j], h => exact call_max2 hc pins s σ H _ us Q I r ⟨i, j, rfl, h⟩
def dMin : List V → Hp → VK → Prop := fun xs H Q => match xs with
  | [.int i, .int j] => Q (.int (if j < i then j else i)) H
  | _ => False
theorem cl_min {X : Cx} (hc : X.calm = true) : CallR X (.builtin "min") dMin := by
  intro pins s σ H xs us Q I r h
  match xs, h with
  | [.int i, .int j], h => exact call_min2 hc pins s σ H _ us Q I r ⟨i, j, rfl, h⟩
def dList (K : PySem.W.Frag) : List V → Hp → VK → Prop := fun xs H Q => match xs with
  | [.ref p] => ∃ ys, (SqL K H p ys ∨ SqT K H p ys) ∧ ∀ l, H l = none → Q (.ref l) (upd H l (.lst ys))
  | _ => False
theorem cl_list0 {X : Cx} : CallR X (.type "list") (dList X.K) := by
  intro pins s σ H xs us Q I r h
  match xs, h with
  | [.ref p], h =>
    obtain ⟨ys, h1, q⟩ := h
    exact call_list_of pins s σ H _ us Q I r ⟨p, ys, rfl, h1, q⟩
def dIsi (K : PySem.W.Frag) : List V → Hp → VK → Prop := rIsi K
theorem cl_isinstance0 {X : Cx} : CallR X (.builtin "isinstance") (dIsi X.K) := call_isi
/-! ### subscripts, slices -/
def dIx (K : PySem.W.Frag) : R2 := fun x y H Q => match x, y with
  | .ref p, .int i => ∃ xs v, (SqL K H p xs ∨ SqT K H p xs) ∧ atI xs i = some v ∧ Q v H
  | .str z, .int i => ∃ c, z.length ≤ sizeLine ∧ atI z.cps.toList i = some c ∧ Q (.str ⟨#[c]⟩) H
  | _, _ => False
theorem ix_dyn0 {X : Cx} : IxR X (dIx X.K) := by
  intro value slice pins s σ H x y v u Q I rx ry h hs
  refine ix_seq value slice pins s σ H x y v u Q I rx ry ?_ hs
  cases x <;> cases y <;> first
    | (obtain ⟨xs, w, h1 | h1, h2, q⟩ := h
       · exact .inl ⟨_, xs, _, w, rfl, rfl, h1, h2, q⟩
       · exact .inr (.inl ⟨_, xs, _, w, rfl, rfl, h1, h2, q⟩))
    | (obtain ⟨c, h1, h2, q⟩ := h
       exact .inr (.inr ⟨_, _, c, rfl, rfl, h1, h2, q⟩))
    | exact (show False from h).elim
def dSl (K : PySem.W.Frag) : V → Option Int → Option Int → Hp → VK → Prop := fun x lo hi H Q => match x with
  | .ref p => ∃ xs, SqL K H p xs ∧ ∀ l, H l = none → Q (.ref l) (upd H l (.lst (cutV xs lo hi)))
  | .str z => z.length ≤ sizeLine ∧ Q (.str (cutS z lo hi)) H
  | _ => False
theorem sl_dyn0 {X : Cx} : SlR X (dSl X.K) := by
  intro pins s σ H x v vl vu lo hi sl Q I rx hs pl pu h
  cases x with
  | ref p =>
    obtain ⟨xs, h1, q⟩ := h
    exact sl_list pins s σ H _ v vl vu lo hi sl Q I rx hs pl pu ⟨p, xs, rfl, h1, q⟩
  | str z => exact sl_str pins s σ H _ v vl vu lo hi sl Q I rx hs pl pu ⟨z, rfl, h.1, h.2⟩
  | _ => exact (show False from h).elim
section
variable {X : Cx} (K : PySem.W.Frag)
theorem op_dIn (h : X.K = K := by rfl) : OpR X (compareOp .In) (dIn K) := h ▸ op_dIn0
theorem op_dNotIn (h : X.K = K := by rfl) : OpR X (compareOp .NotIn) (dNotIn K) := h ▸ op_dNotIn0
theorem op_dEq (hu : X.A.units + 64 < cLine) (h : X.K = K := by rfl) : OpR X (compareOp .Eq) (dEq K) := h ▸ op_dEq0 hu
theorem op_dNe (hu : X.A.units + 64 < cLine) (h : X.K = K := by rfl) : OpR X (compareOp .NotEq) (dNe K) := h ▸ op_dNe0 hu
theorem cl_len (h : X.K = K := by rfl) : CallR X (.builtin "len") (dLen K) := h ▸ cl_len0
theorem cl_list (h : X.K = K := by rfl) : CallR X (.type "list") (dList K) := h ▸ cl_list0
theorem cl_isinstance (h : X.K = K := by rfl) : CallR X (.builtin "isinstance") (dIsi K) := h ▸ cl_isinstance0
theorem ix_dyn (h : X.K = K := by rfl) : IxR X (dIx K) := h ▸ ix_dyn0
theorem sl_dyn (h : X.K = K := by rfl) : SlR X (dSl K) := h ▸ sl_dyn0
end
/-! ### the forms that gen.py writes -/
section
variable {X : Cx} {x : Str} {e : Expr} {es : List Expr} {te : TE} {t : TA} {pos pos' p : Pos}
theorem q_set (i : Nat) (hN : X.N.Nodup) (he : PE X e te) (hi : X.N[i]? = some x := by rfl) (hx : Loc X.env.scope x := by first | exact Or.inl rfl | exact Or.inr rfl)
    (hs : swapsWith e (some (.Name x pos')) pos.line X.env = pure false := by rfl) (hf : X.fn x = true ∨ X.env.scope.names.lookup x = some .local := by first | exact .inl rfl | exact .inr rfl) :
    PS X (.Assign [.Name x pos'] e pos) (tAsg te (gName i)) := ps_set hN hi hx he hs hf
theorem q_name (i : Nat) (hN : X.N.Nodup) (hi : X.N[i]? = some x := by rfl) (hx : Loc X.env.scope x := by first | exact Or.inl rfl | exact Or.inr rfl)
    (hf : X.fn x = true ∨ X.env.scope.names.lookup x = some .local := by first | exact .inl rfl | exact .inr rfl) : PG X (.Name x pos) (gName i) := pg_name hN hi hx hf
theorem q_aug (i : Nat) {op : Operator} {ti : TIp} (hN : X.N.Nodup) (he : PE X e te) (ho : PIp X op ti) (hi : X.N[i]? = some x := by rfl) (hx : Loc X.env.scope x := by first | exact Or.inl rfl | exact Or.inr rfl)
    (hf : X.fn x = true ∨ X.env.scope.names.lookup x = some .local := by first | exact .inl rfl | exact .inr rfl) : PS X (.AugAssign (.Name x pos') op e pos) (tAug i te ti) := ps_aug hN hi hx he ho hf
/-- a module's name and its value -/
def GV (mg : Str → Option Value) (x : Str) (v : V) : Prop := ∃ u, mg x = some u ∧ RelV v u
theorem q_glob {v : V} (h : GV X.mg x v) (hg : Gl X x := by rfl) (hd : (x == ("__debug__" : Str)) = false := by decide) : PE X (.Name x pos) (tC v) := by
  obtain ⟨u, h1, h2⟩ := h
  exact pe_glob hg h1 h2 hd
/-- a def of the module: where it stands, how it binds, what it promises -/
structure Cal (P : Program) (w : World) (K : PySem.W.Frag) (mg : Str → Option Value) (base : Heap) (k : Nat) (x : Str) (ps : List Str) (sp : Sp) : Prop where
  ex : ∃ f fd, mg x = some (.ref f) ∧ PySem.W.keepIn K (.ref f) = true ∧ Binds K fd ps [] ∧ FnOk P w K mg base (L2.CX P w) k f fd ps sp
theorem q_call {W : WX} {k : Nat} {ps : List Str} {sp : Sp} (C : Cal X.prog X.w X.K X.mg X.base k x ps sp) (tk : Takes X W) (hr : Room k X.A) (ha : PA X (e :: es) t) (hg : Gl X x := by rfl) (hdb : (x == ("__debug__" : Str)) = false := by decide)
    (he : starEach (e :: es) X.env = (false, eval e X.env) :: starEach es X.env := by rfl) (hpl : (backTo pos (starEach es X.env)).any (·.1) = false := by rfl) :
    PE X (.Call (.Name x p) (e :: es) [] pos) (tCallS sp (WE W) t) := by
  obtain ⟨f, fd, h1, h2, h3, h4⟩ := C.ex
  exact pe_callS h4 hr hg h1 h2 h3 (fun σ => passAt tk σ) ha hdb he hpl
end

/-! ### step lemmas of the rules by kinds -/
section
variable {K : PySem.W.Frag} {H : Hp} {Q : VK} {i j : Int} {a b : Str} {p : Addr} {xs : List V} {v : V} {k : Bool}
theorem g_add_i (h : Q (.int (i + j)) H) : dAdd (.int i) (.int j) H Q := h
theorem g_add_s (z : a.length + b.length ≤ sizeLine) (h : Q (.str (a ++ b)) H) : dAdd (.str a) (.str b) H Q := ⟨z, h⟩
theorem g_sub_i (h : Q (.int (i - j)) H) : dSub (.int i) (.int j) H Q := h
theorem g_mul_i (z : CMul i j ∨ CMulW i j) (h : Q (.int (i * j)) H) : dMul (.int i) (.int j) H Q := ⟨z, h⟩
theorem g_mul_s (z : MulOk a i) (h : Q (.str (Txt.mul a i)) H) : dMul (.str a) (.int i) H Q := ⟨z, h⟩
theorem g_mod_i (z : 0 < j) (h : Q (.int (i % j)) H) : dMod (.int i) (.int j) H Q := ⟨z, h⟩
theorem g_div_i (z : 0 < j ∧ j.natAbs.log2 < 9000) (h : Q (.int (i / j)) H) : dDiv (.int i) (.int j) H Q := ⟨z, h⟩
theorem g_pow_i (z : CPow i j) (h : Q (.int (i ^ j.toNat)) H) : dPow (.int i) (.int j) H Q := ⟨z, h⟩
theorem g_cmp_i {f : Int → Int → Bool} (h : Q (.bl (f i j)) H) : dCmp f (.int i) (.int j) H Q := h
theorem dec_i : decide (V.int i = V.int j) = decide (i = j) := by simp
theorem dec_s : decide (V.str a = V.str b) = decide (a = b) := by simp
theorem dec_b {c d : Bool} : decide (V.bl c = V.bl d) = decide (c = d) := by simp
theorem g_eq_i (h : Q (.bl (decide (i = j))) H) : dEq K (.int i) (.int j) H Q := .inl ⟨rfl, by rw [dec_i]; exact h⟩
theorem g_eq_s (h : Q (.bl (decide (a = b))) H) : dEq K (.str a) (.str b) H Q := .inl ⟨rfl, by rw [dec_s]; exact h⟩
theorem g_eq_b {c d : Bool} (h : Q (.bl (decide (c = d))) H) : dEq K (.bl c) (.bl d) H Q := .inl ⟨rfl, by rw [dec_b]; exact h⟩
theorem g_ne_i (h : Q (.bl (!decide (i = j))) H) : dNe K (.int i) (.int j) H Q := .inl ⟨rfl, by rw [dec_i]; exact h⟩
theorem g_ne_s (h : Q (.bl (!decide (a = b))) H) : dNe K (.str a) (.str b) H Q := .inl ⟨rfl, by rw [dec_s]; exact h⟩
theorem g_ne_b {c d : Bool} (h : Q (.bl (!decide (c = d))) H) : dNe K (.bl c) (.bl d) H Q := .inl ⟨rfl, by rw [dec_b]; exact h⟩
theorem g_len_s (z : a.length ≤ sizeLine) (h : Q (.int a.length) H) : dLen K [.str a] H Q := ⟨z, h⟩
theorem g_len_l (z : SqL K H p xs ∨ SqT K H p xs) (h : Q (.int xs.length) H) : dLen K [.ref p] H Q := ⟨xs, z, h⟩
theorem g_int_i (h : Q (.int i) H) : dInt [.int i] H Q := h
theorem g_int_s {n : Int} (z1 : PySem.intText? a = some n) (z2 : a.length ≤ 640) (h : Q (.int n) H) : dInt [.str a] H Q := ⟨n, z1, z2, h⟩
theorem g_str_i (z : i.natAbs.log2 < 1920) (h : Q (.str (toString i)) H) : dStr [.int i] H Q := ⟨z, h⟩
theorem g_str_s (h : Q (.str a) H) : dStr [.str a] H Q := h
theorem g_abs (h : Q (.int (if i < 0 then -i else i)) H) : dAbs [.int i] H Q := h
theorem g_max (h : Q (.int (if j > i then j else i)) H) : dMax [.int i, .int j] H Q := h
theorem g_min (h : Q (.int (if j < i then j else i)) H) : dMin [.int i, .int j] H Q := h
theorem g_ix_l (z1 : SqL K H p xs ∨ SqT K H p xs) (z2 : atI xs i = some v) (h : Q v H) : dIx K (.ref p) (.int i) H Q := ⟨xs, v, z1, z2, h⟩
theorem g_ix_s {c : Nat} (z1 : a.length ≤ sizeLine) (z2 : atI a.cps.toList i = some c) (h : Q (.str ⟨#[c]⟩) H) : dIx K (.str a) (.int i) H Q := ⟨c, z1, z2, h⟩
theorem g_setL {QH : Hp → Prop} {n : Nat} (z1 : H p = some (.lst xs)) (z2 : ixN xs.length i = some n) (h : QH (upd H p (.lst (xs.set n v)))) : rSetL (.ref p) (.int i) v H QH := ⟨p, xs, i, n, rfl, rfl, z1, z2, h⟩
theorem g_isN (h : Q (.bl (decide (v = .non))) H) : dIs v .non H Q := h
theorem g_isNotN (h : Q (.bl (!decide (v = .non))) H) : dIsNot v .non H Q := h
end
theorem bt_len : bootBuiltins "len" = some (.builtin "len") := by decide +kernel
theorem bt_abs : bootBuiltins "abs" = some (.builtin "abs") := by decide +kernel
theorem bt_max : bootBuiltins "max" = some (.builtin "max") := by decide +kernel
theorem bt_min : bootBuiltins "min" = some (.builtin "min") := by decide +kernel
theorem bt_isinstance : bootBuiltins "isinstance" = some (.builtin "isinstance") := by decide +kernel
theorem bt_sorted : bootBuiltins "sorted" = some (.builtin "sorted") := by decide +kernel
theorem bt_sum : bootBuiltins "sum" = some (.builtin "sum") := by decide +kernel
theorem bt_repr : bootBuiltins "repr" = some (.builtin "repr") := by decide +kernel
theorem bt_any : bootBuiltins "any" = some (.builtin "any") := by decide +kernel
theorem bt_all : bootBuiltins "all" = some (.builtin "all") := by decide +kernel
theorem bt_int : bootBuiltins "int" = some (.type "int") := by decide +kernel
theorem bt_str : bootBuiltins "str" = some (.type "str") := by decide +kernel
theorem bt_bool : bootBuiltins "bool" = some (.type "bool") := by decide +kernel
theorem bt_list : bootBuiltins "list" = some (.type "list") := by decide +kernel
theorem bt_tuple : bootBuiltins "tuple" = some (.type "tuple") := by decide +kernel
theorem bt_dict : bootBuiltins "dict" = some (.type "dict") := by decide +kernel
theorem bt_set : bootBuiltins "set" = some (.type "set") := by decide +kernel
theorem bt_ValueError : bootBuiltins "ValueError" = some (.type "ValueError") := by decide +kernel
theorem bt_LookupError : bootBuiltins "LookupError" = some (.type "LookupError") := by decide +kernel
theorem bt_RuntimeError : bootBuiltins "RuntimeError" = some (.type "RuntimeError") := by decide +kernel
theorem bt_Exception : bootBuiltins "Exception" = some (.type "Exception") := by decide +kernel
theorem q_bltn {X : Cx} {x : Str} {n : String} {pos : Pos} (hm : X.mg x = none) (hv : bootBuiltins x = some (.type n)) (hg : Gl X x := by rfl) (hn : x ≠ "__name__" := by decide) (hd : (x == ("__debug__" : Str)) = false := by decide) : PE X (.Name x pos) (tC (.ty n)) :=
  pe_bltn hg hm hv rfl hn hd
/-! ### loops -/
def Loop (J : It) (g : TG) (tb : TS) (D : Ends) (σ : L2.St) (H : Hp) : Prop := ∃ W : Nat → Nat → L2.St → Hp → Prop, (∃ m, W 0 m σ H) ∧ ∀ i m σ H, W i m σ H →
  (J.stop i H ∧ D.nx σ H) ∨ (J.go i H ∧ ∃ N : L2.St → Hp → Prop, (∀ σ' H', N σ' H' → ∃ m', m' < m ∧ W (i + 1) m' σ' H') ∧ ∀ x H', J.yld i H x H' → g x σ H' fun σ2 H2 => tb { D with nx := N, ct := N, bk := D.nx } σ2 H2)
def LoopC (J : It) (g : TG) (tt : TT) (te : TE) (vs : List Nat) (σ : L2.St) (H1 : Hp) (D : Addr) (Qd : Hp → Prop) : Prop := ∃ W : Nat → Nat → Hp → Prop, (∃ m, W 0 m (upd H1 D (.lst []))) ∧ ∀ i m H, W i m H →
  (J.stop i H ∧ Qd H) ∨ (J.go i H ∧ ∃ Nx : Hp → Prop, (∀ H', Nx H' → ∃ m', m' < m ∧ W (i + 1) m' H') ∧ ∀ x H', J.yld i H x H' → g x (wipe σ vs) H' fun σ2 H2 => wipe σ2 vs = wipe σ vs ∧ tt σ2 H2 fun b H3 =>
    if b = true then te σ2 H3 fun y H4 => ∃ acc, H4 D = some (.lst acc) ∧ acc.length < sizeLine ∧ Nx (upd H4 D (.lst (acc ++ [y]))) else Nx H3)
section
variable {σ : L2.St} {H : Hp} {K : PySem.W.Frag} {R : It → Hp → Prop} {p : Addr} {xs ys : List V} {te : TE} {ta : TA}
theorem g_for {wi : TI} {g : TG} {tb : TS} {D : Ends} (h : wi σ H fun J H1 => Loop J g tb D σ H1) : tFor wi g tb D σ H := h
theorem g_lc {wi : TI} {g : TG} {tt : TT} {te : TE} {vs : List Nat} {Q : VK} (h : wi σ H fun J H1 => ∀ D, H1 D = none → LoopC J g tt te vs σ H1 D fun H' => Q (.ref D) H') : tLc wi g tt te vs σ H Q := h
theorem g_iL (h : te σ H fun x H1 => ∃ a, x = .ref a ∧ (∃ xs, SqL K H1 a xs) ∧ R (Itl K a) H1) : iList K te σ H R := h
theorem g_iL1 {Z : Addr → Prop} (z : SqL K H p xs) (h : Z p) : ∃ a, V.ref p = .ref a ∧ (∃ xs, SqL K H a xs) ∧ Z a := ⟨p, rfl, ⟨xs, z⟩, h⟩
theorem g_iT (h : te σ H fun x H1 => ∃ a, x = .ref a ∧ (∃ xs, SqT K H1 a xs) ∧ R (Itt K a) H1) : iTup K te σ H R := h
theorem g_iT1 {Z : Addr → Prop} (z : SqT K H p xs) (h : Z p) : ∃ a, V.ref p = .ref a ∧ (∃ xs, SqT K H a xs) ∧ Z a := ⟨p, rfl, ⟨xs, z⟩, h⟩
theorem g_iS (h : te σ H fun v H1 => ∃ x, v = .str x ∧ R (Its x) H1) : iStr te σ H R := h
theorem g_iS1 {Z : Str → Prop} {a : Str} (h : Z a) : ∃ x, V.str a = .str x ∧ Z x := ⟨a, rfl, h⟩
theorem g_iE (h : ta σ H fun vs H1 => ∃ a xs, vs = [.ref a] ∧ SqL K H1 a xs ∧ R (Ite K a) H1) : iEnum K ta σ H R := h
theorem g_iE1 {Z : Addr → Prop} (z : SqL K H p xs) (h : Z p) : ∃ a xs, [V.ref p] = [.ref a] ∧ SqL K H a xs ∧ Z a := ⟨p, xs, rfl, z, h⟩
theorem g_iR (h : ta σ H fun vs H1 => ∃ j : Int, vs = [.int j] ∧ -(2 ^ 62) ≤ j ∧ j < 2 ^ 62 ∧ R (Itr 0 j.toNat) H1) : iRng1 ta σ H R := h
theorem g_iR1 {j : Int} (z1 : -(2 ^ 62) ≤ j) (z2 : j < 2 ^ 62) {Z : Int → Prop} (h : Z j) : ∃ i : Int, [V.int j] = [.int i] ∧ -(2 ^ 62) ≤ i ∧ i < 2 ^ 62 ∧ Z i := ⟨j, rfl, z1, z2, h⟩
theorem g_while {c : TT} {tb : TS} {D : Ends} (h : tWhile c tb D σ H) : tWhile c tb D σ H := h
/-- the forms of loops: an invariant by the turn -/
theorem lp_it {J : It} {n : Nat} {G : Hp → Prop} {Y : Nat → Hp → V → Hp → Prop} (w : Walk J n G Y) {g : TG} {tb : TS} {nx : L2.St → Hp → Prop} {rt : VK} {bk ct : L2.St → Hp → Prop} (Pv : Nat → L2.St → Hp → Prop) (h0 : Pv 0 σ H) (hG : ∀ i σ H, i ≤ n → Pv i σ H → G H)
    (hs : ∀ i x σ H H', i < n → Pv i σ H → Y i H x H' → g x σ H' fun σ2 H2 => tb ⟨Pv (i + 1), rt, nx, Pv (i + 1)⟩ σ2 H2) (hd : ∀ σ H, Pv n σ H → nx σ H) : Loop J g tb ⟨nx, rt, bk, ct⟩ σ H := for_it w Pv h0 hG hs hd
theorem lc_by {J : It} {n : Nat} {G : Hp → Prop} {Y : Nat → Hp → V → Hp → Prop} (w : Walk J n G Y) {g : TG} {tt : TT} {te : TE} {vs : List Nat} {D : Addr} {Qd : Hp → Prop} (Pv : Nat → Hp → Prop) (h0 : Pv 0 (upd H D (.lst []))) (hG : ∀ i H, i ≤ n → Pv i H → G H)
    (hs : ∀ i x H H', i < n → Pv i H → Y i H x H' → g x (wipe σ vs) H' fun σ2 H2 => wipe σ2 vs = wipe σ vs ∧ tt σ2 H2 fun b H3 =>
      if b = true then te σ2 H3 fun y H4 => ∃ acc, H4 D = some (.lst acc) ∧ acc.length < sizeLine ∧ Pv (i + 1) (upd H4 D (.lst (acc ++ [y]))) else Pv (i + 1) H3) (hd : ∀ H, Pv n H → Qd H) : LoopC J g tt te vs σ H D Qd := lc_it w Pv h0 hG hs hd
theorem g_yes {QB : Bool → Hp → Prop} (h : QB true H) : tYes σ H QB := h
theorem g_sl {r : V → Option Int → Option Int → Hp → VK → Prop} {te : TE} {tl th : TO} {Q : VK} (h : te σ H fun x H1 => tl σ H1 fun l H2 => th σ H2 fun u H3 => r x l u H3 Q) : tSl r te tl th σ H Q := h
theorem g_noP {QO : Option Int → Hp → Prop} (h : QO none H) : tNoPart σ H QO := h
theorem g_part {QO : Option Int → Hp → Prop} {t : TE} (h : t σ H fun x H1 => ∃ i, x = .int i ∧ QO (some i) H1) : tPart t σ H QO := h
theorem g_int1 {i : Int} {Z : Int → Prop} (h : Z i) : ∃ j, V.int i = .int j ∧ Z j := ⟨i, rfl, h⟩
theorem g_slL {lo hi : Option Int} {Q : VK} (z : SqL K H p xs) (h : ∀ l, H l = none → Q (.ref l) (upd H l (.lst (cutV xs lo hi)))) : dSl K (.ref p) lo hi H Q := ⟨xs, z, h⟩
theorem g_slS {lo hi : Option Int} {Q : VK} {a : Str} (z : a.length ≤ sizeLine) (h : Q (.str (cutS a lo hi)) H) : dSl K (.str a) lo hi H Q := ⟨z, h⟩
theorem g_listL {Q : VK} (z : SqL K H p xs ∨ SqT K H p xs) (h : ∀ l, H l = none → Q (.ref l) (upd H l (.lst xs))) : dList K [.ref p] H Q := ⟨xs, z, h⟩
theorem g_addL {q : Addr} {Q : VK} (z1 : H p = some (.lst xs)) (z2 : H q = some (.lst ys)) (z3 : xs.length + ys.length ≤ sizeLine) (h : ∀ l, H l = none → Q (.ref l) (upd H l (.lst (xs ++ ys)))) : dAdd (.ref p) (.ref q) H Q := ⟨xs, ys, z1, z2, z3, h⟩
theorem g_inL {x : V} {Q : VK} (z1 : SqL K H p xs ∨ SqT K H p xs) (z2 : flatV x = true) (z3 : xs.all flatV = true) (h : Q (.bl (inV x xs)) H) : dIn K x (.ref p) H Q := ⟨xs, z1, z2, z3, h⟩
theorem g_ninL {x : V} {Q : VK} (z1 : SqL K H p xs ∨ SqT K H p xs) (z2 : flatV x = true) (z3 : xs.all flatV = true) (h : Q (.bl (!inV x xs)) H) : dNotIn K x (.ref p) H Q := ⟨xs, z1, z2, z3, h⟩
theorem g_inS {c : Nat} {z : Str} {Q : VK} (h : Q (.bl (decide (c ∈ z.cps.toList))) H) : dIn K (.str ⟨#[c]⟩) (.str z) H Q := ⟨c, rfl, h⟩
theorem g_ninS {c : Nat} {z : Str} {Q : VK} (h : Q (.bl (!decide (c ∈ z.cps.toList))) H) : dNotIn K (.str ⟨#[c]⟩) (.str z) H Q := ⟨c, rfl, h⟩
theorem g_bm {T : String} {r : V → List V → Hp → VK → Prop} {to : TE} {t : TA} {Q : VK} (h : to σ H fun x H1 => tyV K T x H1 ∧ t σ H1 fun xs H2 => r x xs H2 Q) : tBM K T r to t σ H Q := h
theorem g_bm0 {T : String} {r : V → List V → Hp → VK → Prop} {to : TE} {Q : VK} (h : to σ H fun x H1 => tyV K T x H1 ∧ r x [] H1 Q) : tBM0 K T r to σ H Q := h
theorem g_app {v : V} {Q : VK} (z1 : H p = some (.lst xs)) (z2 : xs.length < sizeLine) (h : Q .non (upd H p (.lst (xs ++ [v])))) : rAppend (.ref p) [v] H Q := ⟨p, xs, v, rfl, rfl, z1, z2, h⟩
theorem g_fld {ta : TE} {f : Str} {Q : VK} (h : ta σ H fun x H1 => ∃ a C dx fs v, x = .ref a ∧ H1 a = some (.ins C dx fs) ∧ Cls K C ∧ NoAttr K C f ∧ fs.lookup f = some v ∧ Q v H1) : tFld K ta f σ H Q := h
theorem g_sfld {ta tv : TE} {f : Str} {nx : L2.St → Hp → Prop} {rt : VK} {bk ct : L2.St → Hp → Prop} (h : tv σ H fun y H1 => ta σ H1 fun x H2 => ∃ a C dx fs, x = .ref a ∧ H2 a = some (.ins C dx fs) ∧ Cls K C ∧ NoAttr K C f ∧ fs.length < 1000 ∧ nx σ (upd H2 a (.ins C dx (putF f y fs)))) :
    sFld K ta tv f ⟨nx, rt, bk, ct⟩ σ H := h
theorem tyL {xs : List V} (z : SqL K H p xs) : tyV K "list" (.ref p) H := .inl ⟨rfl, xs, z⟩
theorem tyS {a : Str} : tyV K "str" (.str a) H := rfl
theorem g_tyL {B : Prop} (z : SqL K H p xs) (h : B) : tyV K "list" (.ref p) H ∧ B := ⟨tyL z, h⟩
theorem g_tyS {B : Prop} {a : Str} (h : B) : tyV K "str" (.str a) H ∧ B := ⟨rfl, h⟩
theorem tru_b {b : Bool} {Z : Bool → Prop} (h : Z b) : ∃ k, TruV K (.bl b) H k ∧ Z k := ⟨b, rfl, h⟩
theorem tru_i {i : Int} {Z : Bool → Prop} (h : Z (i != 0)) : ∃ k, TruV K (.int i) H k ∧ Z k := ⟨_, rfl, h⟩
theorem tru_n {Z : Bool → Prop} (h : Z false) : ∃ k, TruV K .non H k ∧ Z k := ⟨_, rfl, h⟩
theorem tru_l {Z : Bool → Prop} (z : SqL K H p xs) (h : Z (!xs.isEmpty)) : ∃ k, TruV K (.ref p) H k ∧ Z k := ⟨_, .inl ⟨xs, z, rfl⟩, h⟩
theorem tru_t {Z : Bool → Prop} (z : SqT K H p xs) (h : Z (!xs.isEmpty)) : ∃ k, TruV K (.ref p) H k ∧ Z k := ⟨_, .inr (.inl ⟨xs, z, rfl⟩), h⟩
end
/-! ### heaps that keep what they had, but at some places -/
def Sx (W : List Addr) (H H' : Hp) : Prop := ∀ a o, a ∉ W → H a = some o → H' a = some o
theorem Sx.refl {W : List Addr} (H : Hp) : Sx W H H := fun _ _ _ h => h
theorem Sx.trans {W : List Addr} {H H1 H2 : Hp} (a : Sx W H H1) (b : Sx W H1 H2) : Sx W H H2 := fun c o h e => b c o h (a c o h e)
theorem Sx.of {W : List Addr} {H H' : Hp} (h : Same H H') : Sx W H H' := fun a o _ e => h a o e
theorem Sx.same {H H' : Hp} (h : Sx [] H H') : Same H H' := fun a o e => h a o (by simp) e
theorem Sx.new {W : List Addr} {H H' : Hp} {p : Addr} {o : HO} (h : Sx W H H') (n : H' p = none) : Sx W H (upd H' p o) := fun a u w e => by
  have q := h a u w e
  rw [upd_ne (ne_of_none q n)]; exact q
theorem Sx.mut {W : List Addr} {H H' : Hp} {p : Addr} {o : HO} (h : Sx W H H') (n : H p = none) : Sx W H (upd H' p o) := fun a u w e => by
  rw [upd_ne (ne_of_none e n)]; exact h a u w e
theorem Sx.put {W : List Addr} {H H' : Hp} {p : Addr} {o : HO} (h : Sx W H H') (n : p ∈ W) : Sx W H (upd H' p o) := fun a u w e => by
  rw [upd_ne (show a ≠ p from fun z => w (by rw [z]; exact n))]; exact h a u w e
theorem Sx.mono {W W' : List Addr} {H H' : Hp} (h : Sx W H H') (i : ∀ a ∈ W, a ∈ W') : Sx W' H H' := fun a o w e => h a o (fun z => w (i a z)) e
theorem Sx.free {W : List Addr} {H H' : Hp} {p : Addr} (h : Sx W H H') (w : p ∉ W) (n : H' p = none) : H p = none := by
  cases q : H p with
  | none => rfl
  | some o => rw [h p o w q] at n; cases n
theorem Sx.get1 {b a : Addr} {o : HO} {H H' : Hp} (h : Sx [b] H H') (n : a ≠ b) (e : H a = some o) : H' a = some o := h a o (by simpa using n) e
theorem _root_.L2.Same.new {H H' : Hp} {p : Addr} {o : HO} (h : Same H H') (n : H' p = none) : Same H (upd H' p o) := fun a u e => by
  have q := h a u e
  rw [upd_ne (ne_of_none q n)]; exact q
theorem _root_.L2.Same.mut {H H' : Hp} {p : Addr} {o : HO} (h : Same H H') (n : H p = none) : Same H (upd H' p o) := fun a u e => by
  rw [upd_ne (ne_of_none e n)]; exact h a u e
/-! ### the same rules, the written part by its letter -/
section
variable {X : Cx} (K : PySem.W.Frag) {e o : Expr} {es : List Expr} {te ta tv : TE} {t : TA} {tg : Expr} {pos pos' p tpos apos cpos : Pos}
theorem q_list (he : PE X e te) (h : X.K = K := by rfl) : PI X tg e (iList K te) := h ▸ pi_list he
theorem q_tupI (he : PE X e te) (h : X.K = K := by rfl) : PI X tg e (iTup K te) := h ▸ pi_tup he
theorem q_enum {elts : List Expr} {kk : Nat} (hm : X.mg "enumerate" = none) (ha : PA X [e] t) (hg : Gl X "enumerate" := by rfl) (hs : starEach [e] X.env = [(false, eval e X.env)] := by rfl) (h : X.K = K := by rfl) :
    PI X (.Tuple elts kk tpos) (.Call (.Name "enumerate" p) [e] [] pos) (iEnum K t) := h ▸ pi_enum hg hm ha hs
theorem q_gtup (n : Nat) {k : Nat} {ts : TGs} (h : PGs X es ts) (hc : X.calm = true := by rfl) (hn : (assignEach es X.env).length = n := by rfl) (hst : (assignEach es X.env).findIdx? (·.1) = none := by rfl) (hK : X.K = K := by rfl) :
    PG X (.Tuple es k pos) (gTL K n ts) := by
  subst hK
  refine ⟨fun pins s σ H v u Q I r q => ?_⟩
  obtain ⟨a, xs, e, h1 | h1, h2, h3⟩ := q
  · exact (pg_tup hc h hn hst).run pins s σ H v u Q I r ⟨a, xs, e, h1, h2, h3⟩
  · exact (pg_unl hc h hn hst).run pins s σ H v u Q I r ⟨a, xs, e, h1, h2, h3⟩
theorem q_truth (ha : PE X e ta) (he : ∀ whole, isTrue e X.env whole = (do let v ← whole; standAt e.pos; holding [v] (truthy v)) := by intro _; rfl) (h : X.K = K := by rfl) :
    PT X e (fun σ H Q => ta σ H fun x H' => ∃ k, TruV K x H' k ∧ Q k H') := h ▸ pt_truth ha he
theorem q_orT {b : Expr} {rest : List Expr} {tb : TE} (ha : PE X e ta) (hb : PE X (.BoolOp .Or (b :: rest) pos) tb) (h : X.K = K := by rfl) : PE X (.BoolOp .Or (e :: b :: rest) pos) (tOrT K ta tb) := h ▸ pe_orT ha hb
theorem q_andT {b : Expr} {rest : List Expr} {tb : TE} (ha : PE X e ta) (hb : PE X (.BoolOp .And (b :: rest) pos) tb) (h : X.K = K := by rfl) : PE X (.BoolOp .And (e :: b :: rest) pos) (tAndT K ta tb) := h ▸ pe_andT ha hb
theorem q_notT (ha : PE X e ta) (h : X.K = K := by rfl) : PE X (.UnaryOp .Not e pos) (tNotT K ta) := h ▸ pe_notT ha
theorem q_fld {f : Str} (ha : PE X o ta) (hb : attributeBase o f X.env (eval o X.env) = eval o X.env := by rfl) (h : X.K = K := by rfl) : PE X (.Attribute o f pos) (tFld K ta f) := h ▸ pe_fld ha hb
theorem q_sfld {f : Str} (ha : PE X o ta) (hv : PE X e tv) (hs : swapsWith e (some (.Attribute o f pos')) pos.line X.env = pure false := by rfl) (h : X.K = K := by rfl) : PS X (.Assign [.Attribute o f pos'] e pos) (sFld K ta tv f) := h ▸ ps_fld ha hv hs
section
variable {name : Str} {T id : String} {r : V → List V → Hp → VK → Prop} {to : TE}
theorem q_bm0 (pa : PlainAttrs T) (slot : Slot T name id) (hty : typeOf (.builtin id) = pure (.type "method_descriptor")) (hm : MtR X id r) (ho : PE X o to)
    (hbase : attributeBase o name X.env (eval o X.env) = eval o X.env := by rfl) (hline : (apos.endLine == cpos.line) = true := by rfl) (h : X.K = K := by rfl) : PE X (.Call (.Attribute o name apos) [] [] cpos) (tBM0 K T r to) := h ▸ pe_bm0 pa slot hty hm ho hbase hline
theorem q_bm (pa : PlainAttrs T) (slot : Slot T name id) (hty : typeOf (.builtin id) = pure (.type "method_descriptor")) (hm : MtR X id r) (ho : PE X o to) (ha : PA X (e :: es) t)
    (hbase : attributeBase o name X.env (eval o X.env) = eval o X.env := by rfl)
    (hfew : ((backTo cpos (starEach (e :: es) X.env)).all (fun x => !x.1) && (backToKw cpos (keywordEach [] X.env)).all (fun x => x.1.isSome)
      && decide ((e :: es).length + ([] : List Keyword).length + (if ([] : List Keyword).isEmpty then 0 else 1) < 30)) = true := by rfl)
    (hline : (apos.endLine == cpos.line) = true := by rfl) (hs : starEach (e :: es) X.env = (false, eval e X.env) :: starEach es X.env := by rfl) (hplain : (backTo cpos (starEach es X.env)).any (·.1) = false := by rfl) (h : X.K = K := by rfl) :
    PE X (.Call (.Attribute o name apos) (e :: es) [] cpos) (tBM K T r to t) := h ▸ pe_bm pa slot hty hm ho ha hbase hfew hline hs hplain
end
theorem m_append : MtR X "list.append" rAppend := mt_append
def dJoin (K : PySem.W.Frag) : V → List V → Hp → VK → Prop := fun x xs H Q => ∃ a p, ∃ ys : List Str, x = .str a ∧ xs = [.ref p] ∧ (SqL K H p (ys.map V.str) ∨ SqT K H p (ys.map V.str)) ∧ (ys.map (·.length)).sum + ys.length * a.length ≤ 16777216 ∧ Q (.str (Txt.join a ys)) H
theorem m_join (h : X.K = K := by rfl) : MtR X "str.join" (dJoin K) := h ▸ mt_join
def dWords : V → List V → Hp → VK → Prop := fun x xs H Q => ∃ a, x = .str a ∧ xs = [] ∧ a.length + 2 ≤ sizeLine ∧ ∀ p, H p = none → Q (.ref p) (upd H p (.lst ((Txt.words a).map V.str)))
theorem m_words : MtR X "str.split" dWords := mt_words
def dSplit : V → List V → Hp → VK → Prop := fun x xs H Q => ∃ a b, x = .str a ∧ xs = [.str b] ∧ (b.length == 0) = false ∧ a.length + 2 ≤ sizeLine ∧ ∀ p, H p = none → Q (.ref p) (upd H p (.lst ((Txt.split a b).map V.str)))
theorem m_split : MtR X "str.split" dSplit := mt_split
end
section
variable {K : PySem.W.Frag} {H : Hp} {Q : VK} {a b : Str} {p : Addr} {ys : List Str}
theorem g_join (z1 : SqL K H p (ys.map V.str) ∨ SqT K H p (ys.map V.str)) (z2 : (ys.map (·.length)).sum + ys.length * a.length ≤ 16777216) (h : Q (.str (Txt.join a ys)) H) : dJoin K (.str a) [.ref p] H Q := ⟨a, p, ys, rfl, rfl, z1, z2, h⟩
theorem g_words (z : a.length + 2 ≤ sizeLine) (h : ∀ p, H p = none → Q (.ref p) (upd H p (.lst ((Txt.words a).map V.str)))) : dWords (.str a) [] H Q := ⟨a, rfl, rfl, z, h⟩
theorem g_split (z1 : (b.length == 0) = false) (z : a.length + 2 ≤ sizeLine) (h : ∀ p, H p = none → Q (.ref p) (upd H p (.lst ((Txt.split a b).map V.str)))) : dSplit (.str a) [.str b] H Q := ⟨a, b, rfl, rfl, z1, z, h⟩
theorem g_start {t : TS} {D : Ends} {σ σ' : L2.St} {H : Hp} (e : σ = σ') (h : t D σ' H) : t D σ H := e ▸ h
end
/-- what comes behind, once for all: R is found where it is used -/
theorem g_all {α : Type} {R : α → Prop} {G : Prop} (main : (∀ c, R c) → G) (rest : ∀ c, R c) : G := main rest
theorem g_all2 {α β : Type} {R : α → β → Prop} {G : Prop} (main : (∀ c d, R c d) → G) (rest : ∀ c d, R c d) : G := main rest
theorem g_allW {α : Type} {W R : α → Prop} {G : Prop} (main : (∀ c, W c → R c) → G) (rest : ∀ c, W c → R c) : G := main rest
theorem hp_same {H H' : Hp} {a : Addr} {o : HO} (s : Same H H') (e : H a = some o) : H' a = some o := s a o e
theorem hp_sx {W : List Addr} {H H' : Hp} {a : Addr} {o : HO} (s : Sx W H H') (n : a ∉ W) (e : H a = some o) : H' a = some o := s a o n e
theorem al {n : Nat} {B : Prop} (h : B) (z : Nat.ble n 16777216 = true := by rfl) : n ≤ sizeLine ∧ B := ⟨by rw [sizeLine_eq]; exact Nat.le_of_ble_eq_true z, h⟩
theorem inV_str {t : Str} {xs : List Str} : inV (.str t) (xs.map V.str) = decide (t ∈ xs) := by
  induction xs with
  | nil => rfl
  | cons x r ih =>
    have e : inV (.str t) ((x :: r).map V.str) = (eqV (.str x) (.str t) || inV (.str t) (r.map V.str)) := rfl
    rw [e, ih]
    have e2 : eqV (.str x) (.str t) = decide (t = x) := by
      show (x == t) = decide (t = x)
      by_cases h : x = t
      · subst h; simp
      · rw [decide_eq_false (fun z => h z.symm)]; simpa using h
    rw [e2, Bool.eq_iff_iff]
    simp
theorem inV_int {t : Int} {xs : List Int} : inV (.int t) (xs.map V.int) = decide (t ∈ xs) := by
  induction xs with
  | nil => rfl
  | cons x r ih =>
    have e : inV (.int t) ((x :: r).map V.int) = (eqV (.int x) (.int t) || inV (.int t) (r.map V.int)) := rfl
    rw [e, ih]
    have e2 : eqV (.int x) (.int t) = decide (t = x) := by
      show (x == t) = decide (t = x)
      by_cases h : x = t
      · subst h; simp
      · rw [decide_eq_false (fun z => h z.symm)]; simpa using h
    rw [e2, Bool.eq_iff_iff]
    simp
theorem flat_strs (xs : List Str) : (xs.map V.str).all flatV = true := by simp [flatV]
theorem flat_ints (xs : List Int) : (xs.map V.int).all flatV = true := by simp [flatV]
theorem atI_of {α : Type} {xs : List α} {i : Nat} {v : α} (h : xs[i]? = some v) : atI xs (i : Int) = some v := by
  have hl : i < xs.length := (List.getElem?_eq_some_iff.mp h).1
  unfold atI ixN
  rw [if_pos (Int.natCast_nonneg i), if_pos (by omega)]
  show xs[(i : Int).toNat]? = some v
  rw [Int.toNat_natCast]; exact h
theorem atI_map {α : Type} {xs : List α} {f : α → V} {i : Nat} {v : α} (h : xs[i]? = some v) : atI (xs.map f) (i : Int) = some (f v) := atI_of (by rw [List.getElem?_map, h]; rfl)
theorem sqL_same {K : PySem.W.Frag} {H H' : Hp} {a : Addr} {xs : List V} (h : SqL K H a xs) (e : Same H H') : SqL K H' a xs := Same.seq e h
theorem rd_same {H H' : Hp} {a : Addr} {u : HO} (e : Same H H') (h : Rd H a u) : Rd H' a u := by
  rcases h with h | ⟨o, h⟩
  · exact Or.inl (e a _ h)
  · exact Or.inr ⟨o, e a _ h⟩
theorem sqT_same {K : PySem.W.Frag} {H H' : Hp} {a : Addr} {xs : List V} (h : SqT K H a xs) (e : Same H H') : SqT K H' a xs := by
  rcases h with h | h
  · exact Or.inl (rd_same e h)
  · exact Or.inr h
section
variable {K : PySem.W.Frag} {H : Hp} {Q : VK} {p : Addr}
theorem g_ip {f : Int → Int → Int} {i j : Int} (h : Q (.int (f i j)) H) : ipI f (.int i) (.int j) H Q := ⟨i, j, rfl, rfl, h⟩
theorem g_rU {g : Int → V} {i : Int} (h : Q (g i) H) : rU g (.int i) H Q := ⟨i, rfl, h⟩
theorem g_inLs {t : Str} {ns : List Str} (z1 : SqL K H p (ns.map V.str) ∨ SqT K H p (ns.map V.str)) (h : Q (.bl (decide (t ∈ ns))) H) : dIn K (.str t) (.ref p) H Q := ⟨_, z1, rfl, flat_strs ns, by rw [inV_str]; exact h⟩
theorem g_ninLs {t : Str} {ns : List Str} (z1 : SqL K H p (ns.map V.str) ∨ SqT K H p (ns.map V.str)) (h : Q (.bl (!decide (t ∈ ns))) H) : dNotIn K (.str t) (.ref p) H Q := ⟨_, z1, rfl, flat_strs ns, by rw [inV_str]; exact h⟩
end
section
variable {K : PySem.W.Frag} {H : Hp} {p C dx : Addr} {fs : List (Str × V)} {f : Str} {v : V}
theorem g_gf {Z : V → Prop} (z1 : H p = some (.ins C dx fs)) (z2 : Cls K C) (z3 : NoAttr K C f) (z4 : fs.lookup f = some v) (h : Z v) : ∃ a C dx fs v, V.ref p = .ref a ∧ H a = some (.ins C dx fs) ∧ Cls K C ∧ NoAttr K C f ∧ fs.lookup f = some v ∧ Z v := ⟨p, C, dx, fs, v, rfl, z1, z2, z3, z4, h⟩
theorem g_sf {Z : Hp → Prop} (z1 : H p = some (.ins C dx fs)) (z2 : Cls K C) (z3 : NoAttr K C f) (z4 : fs.length < 1000) (h : Z (upd H p (.ins C dx (putF f v fs)))) :
    ∃ a C dx fs, V.ref p = .ref a ∧ H a = some (.ins C dx fs) ∧ Cls K C ∧ NoAttr K C f ∧ fs.length < 1000 ∧ Z (upd H a (.ins C dx (putF f v fs))) := ⟨p, C, dx, fs, rfl, z1, z2, z3, z4, h⟩
end
/-! ### data: lists of texts, of ints compared -/
section
variable {K : PySem.W.Frag} {H : Hp} {Q : VK} {p q : Addr}
theorem dp_strs (xs : List Str) : DpAll K H (xs.map V.str) (xs.map PyData.str) := by
  induction xs with
  | nil => exact .nil
  | cons x r ih => exact .cons (.str x) ih
theorem dp_ints (xs : List Int) : DpAll K H (xs.map V.int) (xs.map PyData.int) := by
  induction xs with
  | nil => exact .nil
  | cons x r ih => exact .cons (.int x) ih
theorem lay_all {ds : List PyData} (h : ∀ d ∈ ds, d.canLay0 = true ∧ d.depth ≤ 60) : PyData.canLayAll0 ds = true ∧ PyData.depthAll ds ≤ 60 := by
  induction ds with
  | nil => exact ⟨rfl, by simp [PyData.depthAll]⟩
  | cons d r ih =>
    obtain ⟨h1, h2⟩ := h d (List.mem_cons_self ..)
    obtain ⟨h3, h4⟩ := ih fun e he => h e (List.mem_cons_of_mem _ he)
    exact ⟨by simp [PyData.canLayAll0, h1, h3], by simp only [PyData.depthAll]; omega⟩
theorem shaped_list {ds : List PyData} (h : ∀ d ∈ ds, d.canLay0 = true ∧ d.depth ≤ 60) : SeqAt.shaped (.list ds) = true := by
  obtain ⟨h1, h2⟩ := lay_all h
  simp only [SeqAt.shaped, PyData.canLay0, PyData.depth, h1, Bool.true_and]
  exact decide_eq_true (by omega)
theorem shaped_tup {ds : List PyData} (h : ∀ d ∈ ds, d.canLay0 = true ∧ d.depth ≤ 60) : SeqAt.shaped (.tuple ds) = true := by
  obtain ⟨h1, h2⟩ := lay_all h
  simp only [SeqAt.shaped, PyData.canLay0, PyData.depth, h1, Bool.true_and]
  exact decide_eq_true (by omega)
/-- texts of signs that are signs -/
def Sok (xs : List Str) : Prop := ∀ x ∈ xs, PyData.strOk x = true
theorem shaped_strs {xs : List Str} (h : Sok xs) : SeqAt.shaped (.list (xs.map PyData.str)) = true := shaped_list fun d hd => by
  obtain ⟨x, hx, rfl⟩ := List.mem_map.mp hd
  exact ⟨by simp only [PyData.canLay0]; exact h x hx, by simp [PyData.depth]⟩
theorem sok_asc {x : Str} (h : ∀ c ∈ x.cps.toList, c ≤ 127) : PyData.strOk x = true := by
  unfold PyData.strOk
  rw [← Array.all_toList, List.all_eq_true]
  intro c hc
  have := h c hc
  exact decide_eq_true (by omega)
theorem shaped_ints (xs : List Int) : SeqAt.shaped (.list (xs.map PyData.int)) = true := shaped_list fun d hd => by
  obtain ⟨x, _, rfl⟩ := List.mem_map.mp hd
  exact ⟨by simp only [PyData.canLay0], by simp [PyData.depth]⟩
theorem eqv_strs : ∀ (xs ys : List Str), PyData.eqvAll (xs.map PyData.str) (ys.map PyData.str) = decide (xs = ys)
  | [], [] => rfl
  | [], y :: ys => by simp [PyData.eqvAll]
  | x :: xs, [] => by simp [PyData.eqvAll]
  | x :: xs, y :: ys => by
    simp only [List.map_cons, PyData.eqvAll, PyData.eqv, eqv_strs xs ys]
    rw [Bool.eq_iff_iff]
    simp
theorem eqv_ints : ∀ (xs ys : List Int), PyData.eqvAll (xs.map PyData.int) (ys.map PyData.int) = decide (xs = ys)
  | [], [] => rfl
  | [], y :: ys => by simp [PyData.eqvAll]
  | x :: xs, [] => by simp [PyData.eqvAll]
  | x :: xs, y :: ys => by
    simp only [List.map_cons, PyData.eqvAll, PyData.eqv, eqv_ints xs ys]
    rw [Bool.eq_iff_iff]
    simp
theorem g_neLs {xs ys : List Str} (s1 : Sok xs) (s2 : Sok ys) (z1 : SqL K H p (xs.map V.str)) (z2 : SqL K H q (ys.map V.str)) (h : Q (.bl (!decide (xs = ys))) H) : dNe K (.ref p) (.ref q) H Q :=
  .inr ⟨_, _, .lst z1 (dp_strs xs), .lst z2 (dp_strs ys), shaped_strs s1, shaped_strs s2, by simp only [PyData.eqv, eqv_strs]; exact h⟩
theorem g_eqLs {xs ys : List Str} (s1 : Sok xs) (s2 : Sok ys) (z1 : SqL K H p (xs.map V.str)) (z2 : SqL K H q (ys.map V.str)) (h : Q (.bl (decide (xs = ys))) H) : dEq K (.ref p) (.ref q) H Q :=
  .inr ⟨_, _, .lst z1 (dp_strs xs), .lst z2 (dp_strs ys), shaped_strs s1, shaped_strs s2, by simp only [PyData.eqv, eqv_strs]; exact h⟩
theorem g_neLi {xs ys : List Int} (z1 : SqL K H p (xs.map V.int)) (z2 : SqL K H q (ys.map V.int)) (h : Q (.bl (!decide (xs = ys))) H) : dNe K (.ref p) (.ref q) H Q :=
  .inr ⟨_, _, .lst z1 (dp_ints xs), .lst z2 (dp_ints ys), shaped_ints xs, shaped_ints ys, by simp only [PyData.eqv, eqv_ints]; exact h⟩
end
theorem iteNT {A B : Prop} (h : B) : if (!true) = true then A else B := iteF h
theorem iteNF {A B : Prop} (h : A) : if (!false) = true then A else B := iteT h
theorem g_allW2 {α β : Type} {W R : α → β → Prop} {G : Prop} (main : (∀ c d, W c d → R c d) → G) (rest : ∀ c d, W c d → R c d) : G := main rest
theorem log2_of {n k : Nat} (h0 : 0 < k) (h : n < 2 ^ k) : n.log2 < k := by
  by_cases z : n = 0
  · subst z; simpa using h0
  · exact (Nat.log2_lt z).mpr h
theorem log2_1000 {d : Int} (h0 : 0 ≤ d) (h1 : d < 2 ^ 120) : d.natAbs.log2 < 1920 := Nat.lt_trans (log2_of (k := 120) (by decide) (by omega)) (by decide)
end NL
namespace NL
open PySem L2
/-! ### own exceptions of one field -/
/-- what __init__(self, f): self.f = f does to the exception that is being made -/
def sp_xi (C : Addr) (f : Str) : Sp := fun vs H Q _ => ∃ (a : Addr) (v : V), vs = [.ref a, v] ∧ H a = some (exo a C none) ∧
  ∀ dx, H dx = none → dx ≠ a → Q .non (upd (upd H dx (exd dx [(f, v)])) a (exo a C (some dx)))
/-- what is known of an own exception class x with the field f -/
structure XC (P : Program) (w : World) (K : PySem.W.Frag) (mg : Str → Option Value) (base : Heap) (k : Nat) (x f : Str) (C : Addr) : Prop where
  g : mg x = some (.ref C)
  o : OexC K C
  no : PySem.W.findIn K (.ref C) f = some none
  fn : ∃ (fI : Addr) (fd : FuncData) (ps : List Str), PySem.W.findIn K (.ref C) "__init__" = some (some (.ref fI)) ∧ PySem.W.typeIn K (.ref fI) = some (.type "function") ∧ Binds K fd ps [] ∧ FnOk P w K mg base (L2.CX P w) k fI fd ps (sp_xi C f)
theorem del_upd {H : Hp} {a d : Addr} {o1 o2 o3 o4 : HO} (ha : H a = none) (hd : d ≠ a) : upd (del (upd (upd (upd H a o1) d o2) a o3) a) d o4 = upd H d o4 := by
  funext b
  by_cases e : b = d
  · subst e; rw [upd_same, upd_same]
  · rw [upd_ne e, upd_ne e]
    by_cases e2 : b = a
    · subst e2; rw [del_same, ha]
    · rw [del_ne e2, upd_ne e2, upd_ne e, upd_ne e2]
section
variable {X : Cx} {k : Nat} {x f : Str} {C : Addr} {e : Expr} {es : List Expr} {ta : TA} {p pos pos2 : Pos}
def tMkX (C : Addr) (f : Str) (ta : TA) : L2.St → Hp → XK → Prop := fun σ H Q => ta σ H fun vs H1 => ∃ v, vs = [v] ∧ ∀ d, H1 d = none → Q (.ref C) (some d) (upd H1 d (.xd [(f, v)]))
theorem imp_of {X : Cx} {e : Expr} {t t' : L2.St → Hp → XK → Prop} (h : PMk X e t) (i : ∀ σ H Q, t' σ H Q → t σ H Q) : PMk X e t' := fun pins s σ H Q I q => h pins s σ H Q I (i σ H Q q)
theorem pa_imp {X : Cx} {es : List Expr} {t t' : TA} (h : PA X es t) (i : ∀ σ H Q, t' σ H Q → t σ H Q) : PA X es t' := ⟨fun pos pins s σ H Q I q => h.run pos pins s σ H Q I (i σ H Q q)⟩
/-- arguments: what is wanted of them may be weakened -/
def Mono (t : TA) : Prop := ∀ (σ : L2.St) (H : Hp) (Q Q' : List V → Hp → Prop), (∀ vs H', Q vs H' → Q' vs H') → t σ H Q → t σ H Q'
theorem pmk_x (T : XC X.prog X.w X.K X.mg X.base k x f C) (hr : Room (k + 1) X.A) (ha : PA X (e :: es) ta) (hg : Gl X x := by rfl) (hdb : (x == ("__debug__" : Str)) = false := by decide)
    (he : starEach (e :: es) X.env = (false, eval e X.env) :: starEach es X.env := by rfl) (hpl : (backTo pos (starEach es X.env)).any (·.1) = false := by rfl) :
    PMk X (.Call (.Name x p) (e :: es) [] pos) (tMkX C f ta) := by
  obtain ⟨fI, fd, ps, iC, tI, hb, F1⟩ := T.fn
  have ha' : PA X (e :: es) (fun σ H Q => ta σ H fun vs H1 => Q vs H1) := ha
  intro pins s σ H Q I h
  have base := pmk_oex (dvs := []) (ds := []) (p := p) T.o iC tI F1 hr hb .nil passL hg T.g (ta := fun σ H Q => ∃ (R : List V → Hp → Prop), ta σ H R ∧ ∀ vs H', R vs H' → Q vs H')
    (⟨fun pos pins s σ H Q I q => by
      obtain ⟨R, h1, h2⟩ := q
      exact thn (ha.run pos pins s σ H R I h1) fun us s1 ⟨vs, H1, I1, r, q1⟩ => ⟨vs, H1, I1, r, h2 vs H1 q1⟩⟩) hdb he hpl
  refine base pins s σ H Q I ⟨_, h, fun vs H1 hv => ?_⟩
  obtain ⟨v, rfl, hv⟩ := hv
  refine ⟨by show 1 ≤ 1000; decide, fun a ha1 => ⟨a, v, rfl, upd_same, fun dx hdx hne => ⟨rfl, dx, [(f, v)], upd_same, ?_, ?_, ?_⟩⟩⟩
  · rw [upd_ne hne, upd_same]
  · have := hdx
    rw [upd_ne hne] at this
    exact this
  · rw [del_upd ha1 hne]
    rw [upd_ne hne] at hdx
    exact hv dx hdx
/-- raise x(e) -/
def tRaiseX (C : Addr) (f : Str) (W : WX) (ta : TA) : TS := fun _ σ H => ta σ H fun vs H1 => ∃ v, vs = [v] ∧ ∀ d, H1 d = none → W (.ref C) (some d) σ (upd H1 d (.xd [(f, v)]))
theorem q_raise {W : WX} (T : XC X.prog X.w X.K X.mg X.base k x f C) (tk : Takes X W) (hr : Room (k + 1) X.A) (ha : PA X (e :: es) ta) (hc : X.calm = true := by rfl) (hg : Gl X x := by rfl) (hdb : (x == ("__debug__" : Str)) = false := by decide)
    (he : starEach (e :: es) X.env = (false, eval e X.env) :: starEach es X.env := by rfl) (hpl : (backTo pos (starEach es X.env)).any (·.1) = false := by rfl) :
    PS X (.Raise (some (.Call (.Name x p) (e :: es) [] pos)) none pos2) (tRaiseX C f W ta) := ps_raise hc tk (pmk_x T hr ha hg hdb he hpl)
theorem g_raise {C : Addr} {f : Str} {W : WX} {ta : TA} {D : Ends} {σ : L2.St} {H : Hp} (h : ta σ H fun vs H1 => ∃ v, vs = [v] ∧ ∀ d, H1 d = none → W (.ref C) (some d) σ (upd H1 d (.xd [(f, v)]))) : tRaiseX C f W ta D σ H := h
theorem g_raised {v : V} {Z : V → Prop} (h : Z v) : ∃ u, [v] = [u] ∧ Z u := ⟨v, rfl, h⟩
end
/-! ### in an except suite: isinstance of the exception that is held, its field -/
def dIsX (K : PySem.W.Frag) (a : Addr) (cls : Value) (d : Option Addr) : List V → Hp → VK → Prop := fun xs H Q => ∃ (D dd : Addr) (fs : List (Str × V)) (c : V) (cv : Value) (b : Bool),
  xs = [.ref a, c] ∧ cls = .ref D ∧ d = some dd ∧ H dd = some (.xd fs) ∧ ExcC K D ∧ ClsV c cv ∧ PySem.W.kitOne K (.ref D) cv = some b ∧ Q (.bl b) H
theorem cl_isX0 {X : Cx} {a : Addr} {oe : Obj} {cls : Value} {d : Option Addr} {pn : List (Addr × Obj)} (hz : Zc cls d oe) (hf : ∃ vs, oe.data = .fields vs) : CallR (X.suite a ((a, oe) :: pn)) (.builtin "isinstance") (dIsX X.K a cls d) := by
  intro pins s σ H xs us Q I r h
  obtain ⟨D, dd, fs, c, cv, b, rfl, rfl, rfl, hx, C, kc, e, q⟩ := h
  obtain ⟨u1, u2, rfl, r1, r2⟩ := Vals.two r
  obtain rfl : u1 = Value.ref a := r1
  have e2 := kc.eq r2
  subst e2
  obtain ⟨hget, _⟩ := I.pin (a, oe) (List.mem_append.mpr (.inl List.mem_cons_self))
  obtain ⟨vs, hv⟩ := hf
  obtain ⟨mA, ⟨o, es, ep, ho, _⟩, _⟩ := I.hok dd _ hx
  have J : PySem.W.InstAt s.heap a oe D (some o) := by
    obtain ⟨oc, od, oda, osl⟩ := oe
    obtain ⟨h1, h2⟩ := hz
    dsimp only at h1 h2 hv
    subst h1 h2 hv
    exact ⟨hget, rfl, rfl, ho⟩
  have hcl : (PySem.W.clsIn X.K D).isSome = true := by
    obtain ⟨cd, hc, _⟩ := PySem.W.any_some C.hd
    rw [hc]; rfl
  exact PySem.W.kia_one (PySem.W.kitx_exc hcl C.hg C.hk C.hs C.ha C.hn C.ht C.hm) I.kIn J e (fun z => nomatch z) fun tk => ⟨.bl b, H, I.kept (t' := tk) fun _ _ z => z, rfl, q⟩
theorem cl_isX {X : Cx} (K : PySem.W.Frag) {a : Addr} {oe : Obj} {cls : Value} {d : Option Addr} {pn : List (Addr × Obj)} (hz : Zc cls d oe) (hf : ∃ vs, oe.data = .fields vs) (h : X.K = K := by rfl) :
    CallR (X.suite a ((a, oe) :: pn)) (.builtin "isinstance") (dIsX K a cls d) := h ▸ cl_isX0 hz hf
def tXfD (K : PySem.W.Frag) (a : Addr) (cls : Value) (d : Option Addr) (f : Str) (te : TE) : TE := fun σ H Q => te σ H fun x H1 => x = .ref a ∧ ∃ (C dd : Addr) (fs : List (Str × V)) (v : V), cls = .ref C ∧ XfC K C ∧ PySem.W.findIn K (.ref C) f = some none ∧ d = some dd ∧ H1 dd = some (.xd fs) ∧ fs.lookup f = some v ∧ Q v H1
theorem pe_xfD0 {X : Cx} {a : Addr} {oe : Obj} {cls : Value} {d : Option Addr} {pn : List (Addr × Obj)} {e : Expr} {te : TE} {pos : Pos} {n : Str}
    (hz : Zc cls d oe) (hf : ∃ vs, oe.data = .fields vs) (he : PE (X.suite a ((a, oe) :: pn)) e te) (hb : attributeBase e n X.env (eval e X.env) = eval e X.env := by rfl) :
    PE (X.suite a ((a, oe) :: pn)) (.Attribute e n pos) (tXfD X.K a cls d n te) := by
  refine ⟨fun pins s σ H Q I h => ?_⟩
  have base : ∀ C, XfC X.K C → PySem.W.findIn X.K (.ref C) n = some none → PE (X.suite a ((a, oe) :: pn)) (.Attribute e n pos) (tXf a cls d C n te) := fun C T hno => pe_xf T hno hz hf he hb
  refine attr_of hb (thn (he.run pins s σ H _ I h) fun u s1 hh => ?_)
  obtain ⟨x, H1, I1, rx, ex, C, dd, fs, v, ec, T, hno, ed, ea, l, q⟩ := hh
  subst ex
  obtain rfl : u = Value.ref a := rx
  subst ec
  subst ed
  obtain ⟨ha, _⟩ := I1.pin (a, oe) (List.mem_append_left _ List.mem_cons_self)
  obtain ⟨vs, hd⟩ := hf
  obtain ⟨mA, hns, hr⟩ := I1.hok dd _ ea
  obtain ⟨od, ho, hl⟩ := lookIn_ns hns
  obtain ⟨u, hu, ru⟩ := RelO.some_of (v := v) (o := mA n) (by rw [← l]; exact hr n)
  have J : PySem.W.InstAt s1.heap a oe C (some od) := ⟨ha, hz.1, by unfold PySem.W.notCls; rw [hd] <;> rfl, by rw [hz.2]; exact ho⟩
  exact HandSPX.exc_get I1.kIn J T.ga T.gg T.exC (PySem.W.findObj_own T.hdC hno rfl (by rw [hl, hu])) (handed_of ru) ⟨v, H1, I1.tok _, ru, q⟩
theorem pe_xfD {X : Cx} (K : PySem.W.Frag) {a : Addr} {oe : Obj} {cls : Value} {d : Option Addr} {pn : List (Addr × Obj)} {e : Expr} {te : TE} {pos : Pos} {n : Str}
    (hz : Zc cls d oe) (hf : ∃ vs, oe.data = .fields vs) (he : PE (X.suite a ((a, oe) :: pn)) e te) (hb : attributeBase e n X.env (eval e X.env) = eval e X.env := by rfl) (h : X.K = K := by rfl) :
    PE (X.suite a ((a, oe) :: pn)) (.Attribute e n pos) (tXfD K a cls d n te) := h ▸ pe_xfD0 hz hf he hb
/-! ### an own class made, its methods called; what is raised goes to the taker -/
structure MkC (P : Program) (w : World) (K : PySem.W.Frag) (mg : Str → Option Value) (base : Heap) (k : Nat) (x : Str) (C : Addr) (ps : List Str) (sp : Sp) : Prop where
  g : mg x = some (.ref C)
  fn : ∃ (f : Addr) (fd : FuncData), Mk K C f ∧ Binds K fd ps [] ∧ FnOk P w K mg base (L2.CX P w) k f fd ps sp
structure MtC (P : Program) (w : World) (K : PySem.W.Frag) (mg : Str → Option Value) (base : Heap) (k : Nat) (C : Addr) (m : Str) (ps : List Str) (sp : Sp) : Prop where
  c : Cls K C
  fn : ∃ (f : Addr) (fd : FuncData), Meth K C m f ∧ PySem.W.fnIn K f = true ∧ Binds K fd ps [] ∧ FnOk P w K mg base (L2.CX P w) k f fd ps sp
section
variable {X : Cx} {k : Nat} {x m : Str} {C : Addr} {e o : Expr} {es : List Expr} {t : TA} {ta : TE} {p pos apos : Pos} {ps : List Str} {sp : Sp} {W : WX}
def tMakeS (C : Addr) (sp : Sp) (E : L2.St → XK) (t : TA) : TE := fun σ H Q => t σ H fun vs H1 => ∀ x dx, H1 x = none → H1 dx = none → dx ≠ x →
  sp (.ref x :: vs) (upd (upd H1 dx (.own x)) x (.ins C dx [])) (fun v H2 => v = .non ∧ Q (.ref x) H2) (E σ)
theorem run_makeS {f : Addr} {fd : FuncData} {pins : List (Addr × Obj)} {σ : L2.St} {H : Hp} {s : Shared} {Q : VK} {us : List Value} {vs : List V} (M : Mk X.K C f) (F : FnOk X.prog X.w X.K X.mg X.base (L2.CX X.prog X.w) k f fd ps sp) (hr : Room (k + 1) X.A) (hb : Binds X.K fd ps [])
    (tk : Takes X W) (I : Inv X pins σ H s) (r : Vals vs us)
    (h : ∀ x dx, H x = none → H dx = none → dx ≠ x → sp (.ref x :: vs) (upd (upd H dx (.own x)) x (.ins C dx [])) (fun v H2 => v = .non ∧ Q (.ref x) H2) (WE W σ)) :
    wpAny (model X.prog X.w) X.A (call (.ref C) us) (EP X pins σ Q) X.xe s := by
  have hq := h (s.heap.objs.size + 1) s.heap.objs.size (I.hok.fresh (Nat.le_succ _)) (I.hok.fresh (Nat.le_refl _)) (Nat.ne_of_lt (Nat.lt_succ_self _))
  have I2 := Inv.made (C := C) I
  have r2 : Vals (V.ref (s.heap.objs.size + 1) :: vs) (Value.ref (s.heap.objs.size + 1) :: us) := .cons rfl r
  have hl : (Value.ref (s.heap.objs.size + 1) :: us).length = ps.length := by
    have e := r2.length
    rw [F.len _ _ _ _ hq] at e
    exact e.symm
  have hb2 := hb _ (Value.ref (s.heap.objs.size + 1) :: us) I2.kIn (by rw [List.append_nil]; exact hl)
  rw [List.append_nil] at hb2
  refine wpAny_call (make_map (f := f) I.kIn M.makes M.init (beq_iff_eq.mp M.fn) (codeAny_mono (F.run _ X.stack _ _ ⟨Value.ref (s.heap.objs.size + 1) :: us, []⟩ (Value.ref (s.heap.objs.size + 1) :: us) _ _ (WE W σ) (hr.make C us [])
    (I2.env0.make C us []) hb2 r2 hq) fun r s' hq' => ?_))
  cases r with
  | error e => exact passAt tk σ pins _ _ e s' I2 hq'
  | ok fl =>
    cases fl with
    | ret u =>
      obtain ⟨v, H', I3, rv, ev, q3⟩ := I2.after hq'
      subst ev
      exact ⟨rv, ⟨V.ref (s.heap.objs.size + 1), H', I3, rfl, q3⟩⟩
    | next => exact False.elim hq'
    | brk => exact False.elim hq'
    | cont => exact False.elim hq'
theorem q_make (M : MkC X.prog X.w X.K X.mg X.base k x C ps sp) (tk : Takes X W) (hr : Room (k + 1) X.A) (ha : PA X (e :: es) t) (hg : Gl X x := by rfl) (hdb : (x == ("__debug__" : Str)) = false := by decide)
    (he : starEach (e :: es) X.env = (false, eval e X.env) :: starEach es X.env := by rfl) (hpl : (backTo pos (starEach es X.env)).any (·.1) = false := by rfl) :
    PE X (.Call (.Name x p) (e :: es) [] pos) (tMakeS C sp (WE W) t) := by
  obtain ⟨f, fd, M1, hb, F⟩ := M.fn
  refine ⟨fun pins s σ H Q I h => ?_⟩
  refine wpAny_Call_Name_kw (ld_glob I hg M.g ?_ hdb)
  refine PySem.W.callWith_K (h₀ := X.base) I.ok.mod.kin M1.kp (thn (ha.run pos pins s σ H _ I h) fun us s1 ⟨vs, H1, I1, r, q⟩ => ⟨I1.kIn, ?_⟩) he hpl
  exact run_makeS M1 F hr hb tk I1 r q
theorem q_make0 (M : MkC X.prog X.w X.K X.mg X.base k x C ps sp) (tk : Takes X W) (hr : Room (k + 1) X.A) (hg : Gl X x := by rfl) (hdb : (x == ("__debug__" : Str)) = false := by decide) :
    PE X (.Call (.Name x p) [] [] pos) (tMakeS C sp (WE W) tNil) := by
  obtain ⟨f, fd, M1, hb, F⟩ := M.fn
  refine ⟨fun pins s σ H Q I h => ?_⟩
  refine wpAny_Call_Name_kw (ld_glob I hg M.g ?_ hdb)
  exact PySem.W.callWith_K0 I.kIn M1.kp (run_makeS (us := []) M1 F hr hb tk I .nil h)
theorem g_make {C : Addr} {sp : Sp} {E : L2.St → XK} {t : TA} {σ : L2.St} {H : Hp} {Q : VK} (h : t σ H fun vs H1 => ∀ x dx, H1 x = none → H1 dx = none → dx ≠ x →
    sp (.ref x :: vs) (upd (upd H1 dx (.own x)) x (.ins C dx [])) (fun v H2 => v = .non ∧ Q (.ref x) H2) (E σ)) : tMakeS C sp E t σ H Q := h
/-- o.m(..) -/
def tMethS (C : Addr) (m : Str) (sp : Sp) (E : L2.St → XK) (ta : TE) (t : TA) : TE := fun σ H Q => ta σ H fun x H1 => ∃ a dx fs, x = .ref a ∧ H1 a = some (.ins C dx fs) ∧ fs.lookup m = none ∧ t σ H1 fun vs H2 => sp (x :: vs) H2 Q (E σ)
theorem q_meth {pl : Sem Bool} (M : MtC X.prog X.w X.K X.mg X.base k C m ps sp) (tk : Takes X W) (hr : Room k X.A) (he : PE X o ta) (ha : PA X (e :: es) t)
    (hst : starEach (e :: es) X.env = (false, eval e X.env) :: starEach es X.env := by rfl) (hpl : (backTo pos (starEach es X.env)).any (·.1) = false := by rfl)
    (ht : eval (.Call (.Attribute o m apos) (e :: es) [] pos) X.env = (do
      let ov ← eval o X.env
      standAt apos.atName
      let (f, first) ← holding [ov] (getMethod ov m pl)
      callWith pos f first (backTo pos (starEach (e :: es) X.env)) (backToKw pos (keywordEach [] X.env))) := by rfl) :
    PE X (.Call (.Attribute o m apos) (e :: es) [] pos) (tMethS C m sp (WE W) ta t) := by
  obtain ⟨f, fd, hm, _, hb, F⟩ := M.fn
  refine ⟨fun pins s σ H Q I h => ?_⟩
  refine PySem.W.methodCall_KW (pl := pl) (thn (he.run pins s σ H _ I h) fun u s1 ⟨x, H1, I1, rx, a, dx, fs, ex, ea, l, q⟩ => ?_) ht
  subst ex
  obtain rfl : u = Value.ref a := rx
  refine getmeth_ok I1 ea M.c hm l ?_
  refine PySem.W.callWith_K (first := [.ref a]) (h₀ := X.base) I.ok.mod.kin hm.kp (thn (ha.run pos pins s1 σ H1 _ I1 q) fun us s2 ⟨vs, H2, I2, r, q2⟩ => ⟨I2.kIn, ?_⟩) hst hpl
  exact run_fnS (us := .ref a :: us) (vs := .ref a :: vs) (E := WE W) F hr hb (passAt tk σ) I2 (.cons rfl r) q2
theorem q_meth0 {pl : Sem Bool} (M : MtC X.prog X.w X.K X.mg X.base k C m ps sp) (tk : Takes X W) (hr : Room k X.A) (he : PE X o ta)
    (ht : eval (.Call (.Attribute o m apos) [] [] pos) X.env = (do
      let ov ← eval o X.env
      standAt apos.atName
      let (f, first) ← holding [ov] (getMethod ov m pl)
      callWith pos f first (backTo pos (starEach [] X.env)) (backToKw pos (keywordEach [] X.env))) := by rfl) :
    PE X (.Call (.Attribute o m apos) [] [] pos) (tMethS C m sp (WE W) ta tNil) := by
  obtain ⟨f, fd, hm, _, hb, F⟩ := M.fn
  refine ⟨fun pins s σ H Q I h => ?_⟩
  refine PySem.W.methodCall_KW (pl := pl) (thn (he.run pins s σ H _ I h) fun u s1 ⟨x, H1, I1, rx, a, dx, fs, ex, ea, l, q⟩ => ?_) ht
  subst ex
  obtain rfl : u = Value.ref a := rx
  refine getmeth_ok I1 ea M.c hm l ?_
  exact PySem.W.callWith_K0 (first := [.ref a]) I1.kIn hm.kp (run_fnS (us := [.ref a]) (vs := [.ref a]) (E := WE W) F hr hb (passAt tk σ) I1 (.cons rfl .nil) q)
theorem g_meth {C : Addr} {m : Str} {sp : Sp} {E : L2.St → XK} {ta : TE} {t : TA} {σ : L2.St} {H : Hp} {Q : VK} (h : ta σ H fun x H1 => ∃ a dx fs, x = .ref a ∧ H1 a = some (.ins C dx fs) ∧ fs.lookup m = none ∧ t σ H1 fun vs H2 => sp (x :: vs) H2 Q (E σ)) : tMethS C m sp E ta t σ H Q := h
end
end NL
namespace NL
open PySem L2
/-! ### facts of the written part, asked once at the head -/
def oexB (K : PySem.W.Frag) (C : Addr) : Bool := (match K.lookup C with
  | some ⟨.type t, _, .cls cd, sl⟩ => decide (t = "type") && (match cd.mro, sl.toList with
    | .ref c :: bm, [_, _, _, _, some (.builtin n), _] => decide (c = C) && (decide (n = "ValueError.__new__") && (!cd.hasDel && (cd.hasDict && PySem.HandSPX.refsVE bm)))
    | _, _ => false)
  | _ => false) && (decide (PySem.W.findIn K (.ref C) "__setattr__" = some (some (.builtin "object.__setattr__"))) && (decide (PySem.W.subIn K (.ref C) (.type "BaseException") = some true) && (decide (PySem.W.typeIn K (.ref C) = some (.type "type")) && PySem.W.keepIn K (.ref C))))
theorem oexB_ok {K : PySem.W.Frag} {C : Addr} (h : oexB K C = true) : OexC K C := by
  unfold oexB at h
  simp only [Bool.and_eq_true, decide_eq_true_eq] at h
  obtain ⟨h0, h1, h2, h3, h4⟩ := h
  refine ⟨?_, h1, h2, h3, h4⟩
  split at h0
  · rename_i t dd cd sl ho
    simp only [Bool.and_eq_true, decide_eq_true_eq] at h0
    obtain ⟨rfl, h0⟩ := h0
    split at h0
    · rename_i c bm k0 k1 k2 k3 n k5 hm hs
      simp only [Bool.and_eq_true, decide_eq_true_eq, Bool.not_eq_true'] at h0
      obtain ⟨rfl, rfl, hdel, hd, hr⟩ := h0
      obtain ⟨nm, bs, mro, ns, qn, hd', sn, sub, ab, col, del⟩ := cd
      dsimp only at hm hdel hd
      subst hm hdel hd
      have hsl : sl = #[k0, k1, k2, k3, some (.builtin "ValueError.__new__"), k5] := by
        obtain ⟨l⟩ := sl
        simp only at hs
        rw [hs]
      subst hsl
      exact ⟨nm, qn, ns, bs, bm, sn, sub, ab, col, dd, k0, k1, k2, k3, k5, ho, hr⟩
    · cases h0
  · cases h0
def excB (K : PySem.W.Frag) (D : Addr) : Bool := decide (PySem.W.findIn K (.ref D) "__getattribute__" = some (some (.builtin "BaseException.__getattribute__"))) && (decide (PySem.W.findIn K (.ref D) "__getattr__" = some none) && (decide (PySem.W.subIn K (.ref D) (.type "BaseException") = some true) && (PySem.W.hasDictIn K D &&
  (decide (PySem.W.findIn K (.ref D) "__class__" = some (some (.builtin "object.__class__"))) && (decide (PySem.W.specialIn K (.builtin "object.__class__") "__get__" = some (some (.builtin "getset_descriptor.__get__"))) && (decide (PySem.W.takesIn K (.builtin "object.__class__") = some true) && decide (PySem.W.mroIn K D (.type "object") = some true)))))))
theorem excB_ok {K : PySem.W.Frag} {D : Addr} (h : excB K D = true) : ExcC K D := by
  unfold excB at h
  simp only [Bool.and_eq_true, decide_eq_true_eq] at h
  obtain ⟨h1, h2, h3, h4, h5, h6, h7, h8⟩ := h
  exact ⟨h1, h2, h3, h4, h5, h6, h7, h8⟩
/-- a class by its name: a module's one, or a built-in type -/
inductive Cn where
  | own (x : Str) | ty (n : String)
def Cn.v (K : PySem.W.Frag) : Cn → Value
  | .own x => .ref (He.ga K x)
  | .ty n => .type n
inductive Fx where
  | fa (f : He.Fa)
  /-- an own exception class with a dict -/
  | oex (x : Str)
  | fnI (x : Str)
  | excC (x : Str)
  | xf (x : Str)
  /-- isinstance of an x in y -/
  | kit (x : Str) (y : Cn) (b : Bool)
  | tup (x : Str) (vs : List He.Dv)
  | fnF (x m : Str)
def fnB (K : PySem.W.Frag) (x : Str) : Bool := He.eqO (PySem.W.findIn K (.ref (He.ga K x)) "__init__") (some (some (.ref (He.ma K (He.ga K x) "__init__")))) && decide (PySem.W.typeIn K (.ref (He.ma K (He.ga K x) "__init__")) = some (.type "function"))
def Fx.ok (K : PySem.W.Frag) : Fx → Bool
  | .fa f => f.ok K
  | .oex x => oexB K (He.ga K x)
  | .fnI x => fnB K x
  | .excC x => excB K (He.ga K x)
  | .xf x => xfB K (He.ga K x)
  | .kit x y b => decide (PySem.W.kitOne K (.ref (He.ga K x)) (y.v K) = some b)
  | .tup x vs => He.tupB K x vs
  | .fnF x m => PySem.W.fnIn K (He.ma K (He.ga K x) m)
def fxB (l : List Fx) (K : PySem.W.Frag) : Bool := l.all fun f => f.ok K
theorem fxB_at {l : List Fx} {K : PySem.W.Frag} (h : fxB l K = true) (i : Nat) {f : Fx} (e : l[i]? = some f := by rfl) : f.ok K = true :=
  List.all_eq_true.mp h f (List.mem_of_getElem? e)
section
variable {K : PySem.W.Frag} {h : Heap} {mg : Str → Option Value} {l : List Fx}
theorem fx_glo (X : K.In h) (G : h.Ns mainGlobals mg) (c : fxB l K = true) (i : Nat) {x : Str} (e : l[i]? = some (.fa (.glo x)) := by rfl) : mg x = some (.ref (He.ga K x)) := He.glo_ok X G (fxB_at c i e)
theorem fx_free (X : K.In h) (G : h.Ns mainGlobals mg) (c : fxB l K = true) (i : Nat) {x : Str} (e : l[i]? = some (.fa (.free x)) := by rfl) : mg x = none := He.free_ok X G (fxB_at c i e)
theorem fx_int (X : K.In h) (G : h.Ns mainGlobals mg) (c : fxB l K = true) (i : Nat) {x : Str} {n : Int} (e : l[i]? = some (.fa (.int x n)) := by rfl) : GV mg x (.int n) := by
  obtain ⟨t, q⟩ := He.int_ok X G (fxB_at c i e)
  exact ⟨_, q, t, rfl⟩
theorem fx_cls (c : fxB l K = true) (i : Nat) {x : Str} (e : l[i]? = some (.fa (.cls x)) := by rfl) : Cls K (He.ga K x) := He.cls_ok (fxB_at c i e)
theorem fx_noat (c : fxB l K = true) (i : Nat) {x f : Str} (e : l[i]? = some (.fa (.noat x f)) := by rfl) : NoAttr K (He.ga K x) f := He.noat_ok (fxB_at c i e)
theorem fx_meth (c : fxB l K = true) (i : Nat) {x m : Str} (e : l[i]? = some (.fa (.meth x m)) := by rfl) : Meth K (He.ga K x) m (He.ma K (He.ga K x) m) := He.meth_ok (fxB_at c i e)
theorem fx_fnF (c : fxB l K = true) (i : Nat) {x m : Str} (e : l[i]? = some (.fnF x m) := by rfl) : PySem.W.fnIn K (He.ma K (He.ga K x) m) = true := fxB_at c i e
theorem fx_mkr (c : fxB l K = true) (i : Nat) {x : Str} (e : l[i]? = some (.fa (.mkr x)) := by rfl) : Mk K (He.ga K x) (He.ma K (He.ga K x) "__init__") := He.mkr_ok (fxB_at c i e)
theorem fx_exm (c : fxB l K = true) (i : Nat) {x y : Str} {b : Bool} (e : l[i]? = some (.fa (.exm x y b)) := by rfl) : PySem.W.exmOne K (.ref (He.ga K x)) (.ref (He.ga K y)) = some b := He.exm_ok (fxB_at c i e)
theorem fx_oex (c : fxB l K = true) (i : Nat) {x : Str} (e : l[i]? = some (.oex x) := by rfl) : OexC K (He.ga K x) := oexB_ok (fxB_at c i e)
theorem fx_exc (c : fxB l K = true) (i : Nat) {x : Str} (e : l[i]? = some (.excC x) := by rfl) : ExcC K (He.ga K x) := excB_ok (fxB_at c i e)
theorem fx_xf (c : fxB l K = true) (i : Nat) {x : Str} (e : l[i]? = some (.xf x) := by rfl) : XfC K (He.ga K x) := xfB_ok (fxB_at c i e)
theorem fx_kit (c : fxB l K = true) (i : Nat) {x : Str} {y : Cn} {b : Bool} (e : l[i]? = some (.kit x y b) := by rfl) : PySem.W.kitOne K (.ref (He.ga K x)) (y.v K) = some b := of_decide_eq_true (fxB_at c i e)
theorem fx_tup (c : fxB l K = true) (i : Nat) {x : Str} {vs : List He.Dv} (e : l[i]? = some (.tup x vs) := by rfl) (H : Hp) : SqT K H (He.ga K x) (vs.map (He.Dv.v K)) := He.tupB_ok (fxB_at c i e) H
theorem fx_fnI (c : fxB l K = true) (i : Nat) {x : Str} (e : l[i]? = some (.fnI x) := by rfl) : PySem.W.findIn K (.ref (He.ga K x)) "__init__" = some (some (.ref (He.ma K (He.ga K x) "__init__"))) ∧ PySem.W.typeIn K (.ref (He.ma K (He.ga K x) "__init__")) = some (.type "function") := by
  have q : fnB K x = true := fxB_at c i e
  unfold fnB at q
  simp only [Bool.and_eq_true, decide_eq_true_eq] at q
  exact ⟨He.eqO_ok q.1, q.2⟩
end
theorem hCX {P : Program} (w : World) (H : Hp) (s : Shared) (e : Value) (s' : Shared) (h : L2.CX P w [] H s (fun _ _ _ => False) e s') : False := by
  obtain ⟨_, _, _, _, _, _, _, _, _, _, _, _, z⟩ := h
  exact z
end NL
namespace NL
open PySem L2
/-! ### match over texts: written texts, | of them, _ ; a guard -/
section
variable {X : Cx} {K : PySem.W.Frag}
/-- the pattern p fits the text a iff a is among ks -/
def PPat (X : Cx) (p : Pattern) (ks : List Str) : Prop := ∀ (pins : List (Addr × Obj)) (s : Shared) (σ : L2.St) (H : Hp) (a : Str) (t : Nat), Inv X pins σ H s →
  wpAny (model X.prog X.w) X.A (matchPattern p X.env (.str a t)) (fun r s' => Inv X pins σ H s' ∧ r = if a ∈ ks then some [] else none) X.xe s
theorem pp_val {k : Str} {j : Nat} {p pos : Pos} : PPat X (.MatchValue (.Constant (.str k) j p) pos) [k] := by
  intro pins s σ H a t I
  refine wpAny_matchPattern_Value ?_
  refine thn ((pe_str (X := X) (x := k) (j := j) (pos := p)).run pins s σ H (fun x H' => x = .str k ∧ H' = H) I ⟨rfl, rfl⟩) fun u s1 ⟨x, H1, I1, rx, ex, eH⟩ => ?_
  subst ex eH
  refine thn (op_eq pins s1 σ H1 (.str a) (.str k) (.str a t) u (fun z H' => z = .bl (decide (a = k)) ∧ H' = H1) I1 ⟨t, rfl⟩ rx ⟨rfl, by rw [dec_s]; exact ⟨rfl, rfl⟩⟩) fun c s2 ⟨z, H2, I2, rz, ez, eH2⟩ => ?_
  subst ez eH2
  obtain rfl : c = Value.bool (decide (a = k)) := rz
  refine wpAny_truthy_bool ?_
  by_cases h : a = k
  · rw [decide_eq_true h, if_pos rfl]
    exact ⟨I2, by rw [if_pos (by simpa using h)]⟩
  · rw [decide_eq_false h, if_neg Bool.false_ne_true]
    exact ⟨I2, by rw [if_neg (by simpa using h)]⟩
/-- the patterns of an |, from the left -/
def PPats (X : Cx) (ps : List Pattern) (ks : List Str) : Prop := ∀ (pins : List (Addr × Obj)) (s : Shared) (σ : L2.St) (H : Hp) (a : Str) (t : Nat), Inv X pins σ H s →
  wpAny (model X.prog X.w) X.A (matchFirst ps X.env (.str a t)) (fun r s' => Inv X pins σ H s' ∧ r = if a ∈ ks then some [] else none) X.xe s
theorem ppl_nil : PPats X [] [] := fun pins s σ H a t I => wpAny_matchFirst_nil ⟨I, by rw [if_neg (List.not_mem_nil)]⟩
theorem ppl_cons {p : Pattern} {ps : List Pattern} {ks ls : List Str} (h1 : PPat X p ks) (h2 : PPats X ps ls) : PPats X (p :: ps) (ks ++ ls) := by
  intro pins s σ H a t I
  refine wpAny_matchFirst_cons (thn (h1 pins s σ H a t I) fun r s1 ⟨I1, e⟩ => ?_)
  by_cases h : a ∈ ks
  · rw [if_pos h] at e
    subst e
    exact ⟨I1, by rw [if_pos (List.mem_append_left _ h)]⟩
  · rw [if_neg h] at e
    subst e
    refine thn (h2 pins s1 σ H a t I1) fun r s2 ⟨I2, e2⟩ => ⟨I2, ?_⟩
    rw [e2]
    by_cases g : a ∈ ls
    · rw [if_pos g, if_pos (List.mem_append_right _ g)]
    · rw [if_neg g, if_neg (fun z => (List.mem_append.mp z).elim h g)]
theorem pp_or {ps : List Pattern} {ks : List Str} {pos : Pos} (h : PPats X ps ks) (hn : namesOfAll (ps.take 1) = [] := by rfl) : PPat X (.MatchOr ps pos) ks := by
  intro pins s σ H a t I
  refine wpAny_matchPattern_Or (thn (h pins s σ H a t I) fun r s1 ⟨I1, e⟩ => ?_)
  subst e
  by_cases g : a ∈ ks
  · rw [if_pos g]
    refine ⟨I1, ?_⟩
    rw [hn]
    rfl
  · rw [if_neg g]
    exact ⟨I1, rfl⟩
/-- the cases of a match, by the text -/
def PMc (X : Cx) (cs : List MatchCase) (t : Str → TS) : Prop := ∀ (first : Bool) (pins : List (Addr × Obj)) (s : Shared) (σ : L2.St) (H : Hp) (D : Ends) (a : Str) (k : Nat), Inv X pins σ H s → t a D σ H →
  wpAny (model X.prog X.w) X.A (matchCases cs X.env (.str a k) first) (SP X pins D) X.xe s
def tMnil : Str → TS := fun _ D σ H => D.nx σ H
def tMcs (ks : List Str) (tb : TS) (tr : Str → TS) : Str → TS := fun a D σ H => if decide (a ∈ ks) = true then tb D σ H else tr a D σ H
def tMcg (ks : List Str) (tg : TT) (tb : TS) (tr : Str → TS) : Str → TS := fun a D σ H => if decide (a ∈ ks) = true then tg σ H (fun b H1 => if b = true then tb D σ H1 else tr a D σ H1) else tr a D σ H
def tMany (tb : TS) : Str → TS := fun _ D σ H => tb D σ H
theorem pmc_nil : PMc X [] tMnil := fun _ pins s σ H D a k I h => wpAny_matchCases_nil ⟨σ, H, I, h⟩
theorem pmc_cons {p : Pattern} {ks : List Str} {b : List Stmt} {r : List MatchCase} {tb : TS} {tr : Str → TS} (hp : PPat X p ks) (hb : PSs X b tb) (hr : PMc X r tr) : PMc X (⟨p, none, b⟩ :: r) (tMcs ks tb tr) := by
  intro first pins s σ H D a k I h
  refine wpAny_matchCases_cons (thn (hp pins s σ H a k I) fun o s1 ⟨I1, e⟩ => ?_)
  subst e
  unfold tMcs at h
  by_cases g : a ∈ ks
  · rw [if_pos g]
    rw [decide_eq_true g, if_pos rfl] at h
    exact wpAny_assignInOrder_none (hb.run pins s1 σ H D I1 h)
  · rw [if_neg g]
    rw [decide_eq_false g, if_neg Bool.false_ne_true] at h
    exact hr false pins s1 σ H D a k I1 h
theorem pmc_consG {p : Pattern} {ks : List Str} {g : Expr} {b : List Stmt} {r : List MatchCase} {tg : TT} {tb : TS} {tr : Str → TS} (hp : PPat X p ks) (hg : PT X g tg) (hb : PSs X b tb) (hr : PMc X r tr) : PMc X (⟨p, some g, b⟩ :: r) (tMcg ks tg tb tr) := by
  intro first pins s σ H D a k I h
  refine wpAny_matchCases_cons (thn (hp pins s σ H a k I) fun o s1 ⟨I1, e⟩ => ?_)
  subst e
  unfold tMcg at h
  by_cases q : a ∈ ks
  · rw [if_pos q]
    rw [decide_eq_true q, if_pos rfl] at h
    refine wpAny_assignInOrder_none (thn (hg.run pins s1 σ H _ I1 h) fun ok s2 ⟨H2, I2, q2⟩ => ?_)
    cases ok with
    | true => exact hb.run pins s2 σ H2 D I2 q2
    | false => exact hr false pins s2 σ H2 D a k I2 q2
  · rw [if_neg q]
    rw [decide_eq_false q, if_neg Bool.false_ne_true] at h
    exact hr false pins s1 σ H D a k I1 h
theorem pmc_any {b : List Stmt} {tb : TS} {pos : Pos} (hb : PSs X b tb) : PMc X [⟨.MatchAs none none pos, none, b⟩] (tMany tb) := by
  intro first pins s σ H D a k I h
  refine wpAny_matchCases_cons (wpAny_matchPattern_Capture ?_)
  exact wpAny_assignInOrder_none (hb.run pins s σ H D I h)
def tMatch (te : TE) (tc : Str → TS) : TS := fun D σ H => te σ H fun x H1 => ∃ a, x = .str a ∧ tc a D σ H1
theorem ps_match {e : Expr} {cs : List MatchCase} {te : TE} {tc : Str → TS} {pos : Pos} (he : PE X e te) (hc : PMc X cs tc) : PS X (.Match e cs pos) (tMatch te tc) := by
  refine ⟨fun pins s σ H D I h => ?_⟩
  refine wpAny_Match (thn (he.run pins s σ H _ I h) fun u s1 ⟨x, H1, I1, rx, a, ex, q⟩ => ?_)
  subst ex
  obtain ⟨t, rfl⟩ := (show ∃ t, u = Value.str a t from rx)
  exact hc true pins s1 σ H1 D a t I1 q
variable {σ : L2.St} {H : Hp} {D : Ends} {a : Str} {ks : List Str}
theorem g_match {te : TE} {tc : Str → TS} (h : te σ H fun x H1 => ∃ a, x = .str a ∧ tc a D σ H1) : tMatch te tc D σ H := h
theorem g_matched {Z : Str → Prop} (h : Z a) : ∃ b, V.str a = .str b ∧ Z b := ⟨a, rfl, h⟩
theorem g_mcs {tb : TS} {tr : Str → TS} (h : if decide (a ∈ ks) = true then tb D σ H else tr a D σ H) : tMcs ks tb tr a D σ H := h
theorem g_mcg {tg : TT} {tb : TS} {tr : Str → TS} (h : if decide (a ∈ ks) = true then tg σ H (fun b H1 => if b = true then tb D σ H1 else tr a D σ H1) else tr a D σ H) : tMcg ks tg tb tr a D σ H := h
theorem g_many {tb : TS} (h : tb D σ H) : tMany tb a D σ H := h
theorem g_mnil {nx : L2.St → Hp → Prop} {rt : VK} {bk ct : L2.St → Hp → Prop} (h : nx σ H) : tMnil a ⟨nx, rt, bk, ct⟩ σ H := h
/-! ### fields -/
theorem q_afld (K : PySem.W.Frag) {o value : Expr} {f : Str} {pos tpos : Pos} {ta tv : TE} {op : Operator} {rd : V → V → Hp → VK → Prop} (ha : PE X o ta) (hv : PE X value tv) (hop : InOp X op rd) (h : X.K = K := by rfl) :
    PS X (.AugAssign (.Attribute o f tpos) op value pos) (sFldAug K ta tv rd f) := h ▸ ps_fldaug ha hv hop
theorem g_afld {ta tv : TE} {rd : V → V → Hp → VK → Prop} {f : Str} {nx : L2.St → Hp → Prop} {rt : VK} {bk ct : L2.St → Hp → Prop} (h : ta σ H fun x H1 => ∃ a C dx fs v, x = .ref a ∧ H1 a = some (.ins C dx fs) ∧ Cls K C ∧ NoAttr K C f ∧ fs.lookup f = some v ∧
    tv σ H1 fun y H2 => rd v y H2 fun z H3 => ∃ dx' fs', H3 a = some (.ins C dx' fs') ∧ fs'.length < 1000 ∧ nx σ (upd H3 a (.ins C dx' (putF f z fs')))) : sFldAug K ta tv rd f ⟨nx, rt, bk, ct⟩ σ H := h
theorem g_rAdd {i j : Int} {Q : VK} (h : Q (.int (i + j)) H) : rAdd (.int i) (.int j) H Q := ⟨i, j, rfl, rfl, h⟩
theorem g_rSub {i j : Int} {Q : VK} (h : Q (.int (i - j)) H) : rSub (.int i) (.int j) H Q := ⟨i, j, rfl, rfl, h⟩
theorem g_af {p C dx : Addr} {fs : List (Str × V)} {Z : Addr → List (Str × V) → Prop} (z1 : H p = some (.ins C dx fs)) (z4 : fs.length < 1000) (h : Z dx fs) : ∃ dx' fs', H p = some (.ins C dx' fs') ∧ fs'.length < 1000 ∧ Z dx' fs' := ⟨dx, fs, z1, z4, h⟩
theorem g_gfa {p C dx : Addr} {fs : List (Str × V)} {f : Str} {v : V} {Z : Addr → Addr → V → Prop} (z1 : H p = some (.ins C dx fs)) (z2 : Cls K C) (z3 : NoAttr K C f) (z4 : fs.lookup f = some v) (h : Z p C v) :
    ∃ a C dx fs v, V.ref p = .ref a ∧ H a = some (.ins C dx fs) ∧ Cls K C ∧ NoAttr K C f ∧ fs.lookup f = some v ∧ Z a C v := ⟨p, C, dx, fs, v, rfl, z1, z2, z3, z4, h⟩
theorem g_mt {p C dx : Addr} {fs : List (Str × V)} {m : Str} {Z : Prop} (z1 : H p = some (.ins C dx fs)) (z2 : fs.lookup m = none) (h : Z) : ∃ a dx fs, V.ref p = .ref a ∧ H a = some (.ins C dx fs) ∧ fs.lookup m = none ∧ Z := ⟨p, dx, fs, rfl, z1, z2, h⟩
theorem g_allP {W R G : Prop} (main : (W → R) → G) (rest : W → R) : G := main rest
theorem putF_nil {f : Str} {v : V} : putF f v [] = [(f, v)] := rfl
theorem putF_eq {f : Str} {v w : V} {r : List (Str × V)} : putF f v ((f, w) :: r) = (f, v) :: r := by show (if f = f then _ else _) = _; rw [if_pos rfl]
theorem putF_ne {f g : Str} {v w : V} {r : List (Str × V)} (h : ¬ g = f) : putF f v ((g, w) :: r) = (g, w) :: putF f v r := by show (if g = f then _ else _) = _; rw [if_neg h]
theorem g_ite_refl {α : Type} [DecidableEq α] {x : α} {A B : Prop} (h : B) : if (!decide (x = x)) = true then A else B := by
  rw [show (!decide (x = x)) = false by simp]
  exact iteF h
theorem g_ite_reflT {α : Type} [DecidableEq α] {x : α} {A B : Prop} (h : A) : if decide (x = x) = true then A else B := by
  rw [show decide (x = x) = true by simp]
  exact iteT h
end
theorem g_isi {K : PySem.W.Frag} {H : Hp} {Q : VK} {x c : V} {t u : Value} {b : Bool} (h1 : ClsV c u) (h2 : TyX K H x t) (h3 : PySem.W.kitOne K t u = some b) (h : Q (.bl b) H) : dIsi K [x, c] H Q := ⟨x, c, t, u, b, rfl, h1, h2, h3, h⟩
end NL
namespace NL
open PySem L2
/-! ### an own object that is called -/
/-- callWith of an instance: where the arguments are made it is an instance still -/
theorem callWith_inst {M : Model} {A : Around} {E : Value → Shared → Prop} {s : Shared} {pos : Pos} {x : Addr} {Q : Value → Shared → Prop} {args : List (Bool × Sem Value)} (hplain : args.any (·.1) = false)
    (h : wpAny M A (evalArgs (.ref x) true args []) (fun a s₁ => (∃ C ox od, ox.data = .plain ∧ PySem.W.InstAt s₁.heap x ox C od) ∧ wpAny M A (call (.ref x) a.pos a.kw) Q E s₁) E s) :
    wpAny M A (callWith pos (.ref x) [] args []) Q E s := by
  unfold callWith
  refine wpAny_bind (wpAny_holding (thn h fun a s1 hh => ?_))
  obtain ⟨⟨C, ox, od, hd, J⟩, hc⟩ := hh
  refine wpAny_bind (wpAny_standAt ?_)
  have hk := PySem.W.kco_keeper (M := M) J hd
  have hp : (args.any (·.1) || List.any (α := Option Str × Sem Value) [] (·.1.isNone)) = false := by rw [hplain]; rfl
  simp only [hp]
  refine wpAny_bind (hk.here ?_)
  have last : ∀ {t : Sem Value}, wpAny M A t Q E s1 → wpAny M A (do let r ← t; holding [r] point; pure r) Q E s1 := fun ht =>
    wpAny_bind (thn ht fun r s2 hr => wpAny_bind (wpAny_holding (wpAny_point (wpAny_pure hr))))
  exact last (wpAny_operateT hc)
section
variable {X : Cx} {k : Nat} {x : Str} {C : Addr} {e : Expr} {es : List Expr} {t : TA} {ta : TE} {p pos : Pos} {ps : List Str} {sp : Sp} {W : WX}
def tCallO (C : Addr) (sp : Sp) (E : L2.St → XK) (ta : TE) (t : TA) : TE := fun σ H Q => ta σ H fun x H1 => ∃ a dx fs, x = .ref a ∧ H1 a = some (.ins C dx fs) ∧ t σ H1 fun vs H2 => (∃ dx' fs', H2 a = some (.ins C dx' fs')) ∧ sp (x :: vs) H2 Q (E σ)
theorem q_callO (M : MtC X.prog X.w X.K X.mg X.base k C "__call__" ps sp) (tk : Takes X W) (hr : Room (k + 1) X.A) (hf : PE X (.Name x p) ta) (ha : PA X (e :: es) t)
    (he : starEach (e :: es) X.env = (false, eval e X.env) :: starEach es X.env := by rfl) (hpl : (backTo pos (starEach es X.env)).any (·.1) = false := by rfl) :
    PE X (.Call (.Name x p) (e :: es) [] pos) (tCallO C sp (WE W) ta t) := by
  obtain ⟨f, fd, hm, hfn, hb, F⟩ := M.fn
  refine ⟨fun pins s σ H Q I h => ?_⟩
  refine wpAny_Call_Name_kw (thn (hf.run pins s σ H _ I h) fun u s1 ⟨x, H1, I1, rx, a, dx, fs, ex, ea, q⟩ => ?_)
  subst ex
  obtain rfl : u = Value.ref a := rx
  show wpAny _ _ (callWith pos (.ref a) [] (backTo pos (starEach (e :: es) X.env)) []) _ _ _
  refine callWith_inst (by rw [he]; show (false || (backTo pos (starEach es X.env)).any (·.1)) = false; rw [hpl]; rfl) ?_
  have run := thn (ha.run pos pins s1 σ H1 _ I1 q) (Q' := fun us s2 => (∃ C ox od, ox.data = .plain ∧ PySem.W.InstAt s2.heap a ox C od) ∧ wpAny (model X.prog X.w) X.A (call (.ref a) us) (EP X pins σ Q) X.xe s2) fun us s2 ⟨vs, H2, I2, r, ⟨dx', fs', ea2⟩, q2⟩ => by
    obtain ⟨mA, O, _⟩ := ins_get I2.hok ea2
    obtain ⟨od, J, _⟩ := O.look
    refine ⟨⟨C, _, _, rfl, J⟩, ?_⟩
    have rr : Vals (V.ref a :: vs) (Value.ref a :: us) := Paired.cons rfl r
    have hl : (Value.ref a :: us).length = ps.length := by rw [← rr.length]; exact F.len _ _ _ _ q2
    have b := hb s2 (Value.ref a :: us) I2.kIn (by rw [List.append_nil]; exact hl)
    rw [List.append_nil] at b
    refine wpAny_call (PySem.W.kco_code (a := ⟨us, []⟩) I2.kIn J rfl hm.at_ hm.fn hfn ?_)
    refine codeAny_mono (F.run X.A X.stack s2 H2 ⟨Value.ref a :: us, []⟩ (Value.ref a :: us) (V.ref a :: vs) Q (WE W σ) (hr.mono (Nat.le_succ _)) I2.env0 b rr q2) fun r s' hq => ?_
    cases r with
    | error e => exact passAt tk σ pins H2 s2 e s' I2 hq
    | ok fl =>
      cases fl with
      | ret u => exact I2.after hq
      | next => exact False.elim hq
      | brk => exact False.elim hq
      | cont => exact False.elim hq
  rw [he] at run ⊢
  exact Calls.evalArgs_plain run
theorem g_callO {σ : L2.St} {H : Hp} {Q : VK} {E : L2.St → XK} (h : ta σ H fun x H1 => ∃ a dx fs, x = .ref a ∧ H1 a = some (.ins C dx fs) ∧ t σ H1 fun vs H2 => (∃ dx' fs', H2 a = some (.ins C dx' fs')) ∧ sp (x :: vs) H2 Q (E σ)) : tCallO C sp E ta t σ H Q := h
theorem g_co {H : Hp} {p dx : Addr} {fs : List (Str × V)} {Z : Addr → Prop} (z1 : H p = some (.ins C dx fs)) (h : Z p) : ∃ a dx fs, V.ref p = .ref a ∧ H a = some (.ins C dx fs) ∧ Z a := ⟨p, dx, fs, rfl, z1, h⟩
theorem g_ci {H : Hp} {p dx : Addr} {fs : List (Str × V)} {Z : Prop} (z1 : H p = some (.ins C dx fs)) (h : Z) : (∃ dx' fs', H p = some (.ins C dx' fs')) ∧ Z := ⟨⟨dx, fs, z1⟩, h⟩
end
theorem units1 {A : Around} (h : A.units + 64 < cLine) : A.units + 1 < cLine := by omega
/-! ### dicts -/
section
variable {X : Cx} {K : PySem.W.Frag} {σ : L2.St} {H : Hp} {Q : VK} {td ty tv : TE} {p : Addr} {kvs : List (Key × V)} {z : Str} {i : Int} {v : V}
theorem g_dget (h : td σ H fun x H1 => ty σ H1 fun y H2 => ∃ a v, x = .ref a ∧ DGet H2 a y (some v) ∧ Q v H2) : tDGet td ty σ H Q := h
theorem g_dgs {Z : V → Prop} (z1 : H p = some (.dK kvs)) (z2 : valV kvs (.inr z) = some v) (h : Z v) : ∃ a v, V.ref p = .ref a ∧ DGet H a (.str z) (some v) ∧ Z v :=
  ⟨p, v, rfl, .inl ⟨kvs, .inr z, .inl z1, rfl, z2.symm⟩, h⟩
theorem g_dgi {Z : V → Prop} (z1 : H p = some (.dK kvs)) (z2 : valV kvs (.inl i) = some v) (h : Z v) : ∃ a v, V.ref p = .ref a ∧ DGet H a (.int i) (some v) ∧ Z v :=
  ⟨p, v, rfl, .inl ⟨kvs, .inl i, .inl z1, rfl, z2.symm⟩, h⟩
theorem g_dnew (h : ∀ p, H p = none → Q (.ref p) (upd H p (.dK []))) : tDNewK σ H Q := h
theorem g_dput {nx : L2.St → Hp → Prop} {rt : VK} {bk ct : L2.St → Hp → Prop} (h : tv σ H fun v H1 => td σ H1 fun x H2 => ty σ H2 fun y H3 => ∃ a H4, x = .ref a ∧ DPut H3 a y v H4 ∧ nx σ H4) : sDPut td ty tv ⟨nx, rt, bk, ct⟩ σ H := h
theorem g_dps {Z : Hp → Prop} (z1 : H p = some (.dK kvs)) (z2 : kvs.length < sizeLine) (h : Z (upd H p (.dK (putK kvs (.inr z) v)))) : ∃ a H4, V.ref p = .ref a ∧ DPut H a (.str z) v H4 ∧ Z H4 :=
  ⟨p, _, rfl, .inl ⟨kvs, .inr z, z1, rfl, z2, rfl⟩, h⟩
theorem cl_all0 (hc : X.calm = true) : CallR X (.builtin "all") (rAll X.K) := cr_all hc
theorem cl_all (K : PySem.W.Frag) (hc : X.calm = true := by rfl) (h : X.K = K := by rfl) : CallR X (.builtin "all") (rAll K) := h ▸ cl_all0 hc
theorem g_alls {bs : List Bool} (z : SqL K H p (bs.map V.bl)) (h : Q (.bl (bs.all id)) H) : rAll K [.ref p] H Q := ⟨p, bs, rfl, z, h⟩
end
end NL
namespace NL
open PySem L2
/-! ### edges: from a heap to the next; what lies in U may change, nothing goes -/
def Ed (U : List Addr) (H H' : Hp) : Prop := (∀ a o, a ∉ U → H a = some o → H' a = some o) ∧ ∀ a, H a ≠ none → H' a ≠ none
section
variable {U U' W : List Addr} {H H' H0 H1 H2 : Hp} {a b p : Addr} {o : HO}
theorem no0 {P : Addr → Prop} : ∀ a ∈ ([] : List Addr), P a := fun _ z => absurd z List.not_mem_nil
theorem Ed.refl : Ed U H H := ⟨fun _ _ _ e => e, fun _ h => h⟩
theorem Ed.free (e : Ed U H H') (h : H' a = none) : H a = none := by
  by_cases z : H a = none
  · exact z
  · exact absurd h (e.2 a z)
theorem Ed.tr (h1 : Ed U H0 H1) (h2 : Ed U' H1 H2) (hv : ∀ a ∈ U', a ∈ U ∨ H0 a = none) : Ed U H0 H2 :=
  ⟨fun a o n e => h2.1 a o (fun z => (hv a z).elim n (fun q => by rw [q] at e; cases e)) (h1.1 a o n e), fun a h => h2.2 a (h1.2 a h)⟩
theorem Ed.new (hp : H p = none) : Ed [] H (upd H p o) := ⟨fun a u _ e => by rw [upd_ne (ne_of_none e hp)]; exact e, fun a h => by
  rw [upd_ne (fun z : a = p => h (by rw [z]; exact hp))]; exact h⟩
theorem Ed.put : Ed [p] H (upd H p o) := ⟨fun a u n e => by rw [upd_ne (fun z => n (by rw [z]; exact List.mem_singleton.mpr rfl))]; exact e, fun a h => by
  by_cases z : a = p
  · rw [z, upd_same]; exact fun z => nomatch z
  · rw [upd_ne z]; exact h⟩
theorem Ed.same (s : Same H H') : Ed [] H H' := ⟨fun a o _ e => s a o e, fun a h => by
  cases e : H a with
  | none => exact absurd e h
  | some o => rw [s a o e]; exact fun z => nomatch z⟩
theorem Ed.sx (s : Sx U H H') (h : ∀ a ∈ U, H' a ≠ none) : Ed U H H' := ⟨fun a o n e => s a o n e, fun a q => by
  by_cases z : a ∈ U
  · exact h a z
  · cases e : H a with
    | none => exact absurd e q
    | some o => rw [s a o z e]; exact fun z => nomatch z⟩
theorem Ed.same' (e : Ed [] H H') : Same H H' := fun a o q => e.1 a o (List.not_mem_nil) q
theorem Ed.sx' (e : Ed U H H') : Sx U H H' := fun a o n q => e.1 a o n q
theorem Ed.get (e : Ed U H H') (n : a ∉ U) (h : H a = some o) : H' a = some o := e.1 a o n h
/-- all of W lie in H -/
def Wl (W : List Addr) (H : Hp) : Prop := ∀ a ∈ W, H a ≠ none
theorem Wl.nil : Wl [] H := no0
theorem Wl.cons (h : H a = some o) (r : Wl W H) : Wl (a :: W) H := fun c hc => by
  rcases List.mem_cons.mp hc with rfl | hc
  · rw [h]; exact fun z => nomatch z
  · exact r c hc
theorem Wl.ed (w : Wl W H) (e : Ed U H H') : Wl W H' := fun a h => e.2 a (w a h)
theorem Wl.not (w : Wl W H) (h : H a = none) : a ∉ W := fun z => w a z h
end
/-! ### data of one's own: every part lies outside of W -/
mutual
/-- no dict in it -/
def noD : PyData → Bool
  | .list ds => noDs ds
  | .tuple ds => noDs ds
  | .dict _ => false
  | .none => true
  | .bool _ => true
  | .int _ => true
  | .str _ => true
def noDs : List PyData → Bool
  | [] => true
  | d :: r => noD d && noDs r
end
theorem noDs_all : ∀ {ds : List PyData}, (∀ d ∈ ds, noD d = true) → noDs ds = true
  | [], _ => by simp [noDs]
  | d :: r, h => by simp [noDs, h d (List.mem_cons_self ..), noDs_all fun e he => h e (List.mem_cons_of_mem _ he)]
/-- data that can be compared -/
def Sh (d : PyData) : Prop := SeqAt.shaped d = true ∧ noD d = true
theorem Sh.int (i : Int) : Sh (.int i) := ⟨by simp [SeqAt.shaped, PyData.canLay0, PyData.depth], by simp [noD]⟩
theorem Sh.bool (i : Bool) : Sh (.bool i) := ⟨by simp [SeqAt.shaped, PyData.canLay0, PyData.depth], by simp [noD]⟩
theorem Sh.none : Sh .none := ⟨by simp [SeqAt.shaped, PyData.canLay0, PyData.depth], by simp [noD]⟩
theorem Sh.str {s : Str} (h : PyData.strOk s = true) : Sh (.str s) := ⟨by simp [SeqAt.shaped, PyData.canLay0, PyData.depth, h], by simp [noD]⟩
/-- data that can lie in a list or tuple of what is compared: n deep at most -/
def Sd (n : Nat) (d : PyData) : Prop := d.canLay0 = true ∧ d.depth ≤ n ∧ noD d = true
theorem Sd.mono {n m : Nat} {d : PyData} (h : Sd n d) (l : n ≤ m) : Sd m d := ⟨h.1, Nat.le_trans h.2.1 l, h.2.2⟩
theorem Sd.all {n : Nat} : ∀ {ds : List PyData}, (∀ d ∈ ds, Sd n d) → PyData.canLayAll0 ds = true ∧ PyData.depthAll ds ≤ n ∧ noDs ds = true
  | [], _ => ⟨rfl, by simp [PyData.depthAll], by simp [noDs]⟩
  | d :: r, h => by
    obtain ⟨h1, h2, h3⟩ := h d (List.mem_cons_self ..)
    obtain ⟨k1, k2, k3⟩ := Sd.all fun e he => h e (List.mem_cons_of_mem _ he)
    exact ⟨by simp [PyData.canLayAll0, h1, k1], by simp only [PyData.depthAll]; omega, by simp [noDs, h3, k3]⟩
theorem Sd.list {n : Nat} {ds : List PyData} (h : ∀ d ∈ ds, Sd n d) : Sd (n + 1) (.list ds) := by
  obtain ⟨k1, k2, k3⟩ := Sd.all h
  exact ⟨by simp only [PyData.canLay0, k1], by simp only [PyData.depth]; omega, by simp only [noD, k3]⟩
theorem Sd.tuple {n : Nat} {ds : List PyData} (h : ∀ d ∈ ds, Sd n d) : Sd (n + 1) (.tuple ds) := by
  obtain ⟨k1, k2, k3⟩ := Sd.all h
  exact ⟨by simp only [PyData.canLay0, k1], by simp only [PyData.depth]; omega, by simp only [noD, k3]⟩
theorem Sd.sh {n : Nat} {d : PyData} (h : Sd n d) (l : n ≤ 60) : Sh d := ⟨by
  simp only [SeqAt.shaped, h.1, Bool.true_and]
  have := h.2.1
  exact decide_eq_true (by omega), h.2.2⟩
theorem Sd.int (i : Int) : Sd 0 (.int i) := ⟨by simp [PyData.canLay0], by simp [PyData.depth], by simp [noD]⟩
theorem Sd.bool (i : Bool) : Sd 0 (.bool i) := ⟨by simp [PyData.canLay0], by simp [PyData.depth], by simp [noD]⟩
theorem Sd.none : Sd 0 .none := ⟨by simp [PyData.canLay0], by simp [PyData.depth], by simp [noD]⟩
theorem Sd.str {s : Str} (h : PyData.strOk s = true) : Sd 0 (.str s) := ⟨by simp [PyData.canLay0, h], by simp [PyData.depth], by simp [noD]⟩
theorem Sd.map {α : Type} {n : Nat} {f : α → PyData} {xs : List α} (h : ∀ x ∈ xs, Sd n (f x)) : ∀ d ∈ xs.map f, Sd n d := fun d hd => by
  obtain ⟨x, hx, rfl⟩ := List.mem_map.mp hd
  exact h x hx
theorem Sd.nil {n : Nat} : ∀ d ∈ ([] : List PyData), Sd n d := fun d hd => absurd hd List.not_mem_nil
theorem Sd.cons {n : Nat} {d : PyData} {r : List PyData} (h : Sd n d) (k : ∀ d ∈ r, Sd n d) : ∀ e ∈ d :: r, Sd n e := fun e he => by
  rcases List.mem_cons.mp he with rfl | he
  · exact h
  · exact k e he
/-- an object of which the data tell the place alone -/
abbrev ob (a : Addr) : PyData := .dict [(.int (a : Nat), .none)]
mutual
inductive Df (W : List Addr) (H : Hp) : L2.V → PyData → Prop
  | non : Df W H .non .none
  | bl (b : Bool) : Df W H (.bl b) (.bool b)
  | int (i : Int) : Df W H (.int i) (.int i)
  | str (s : Str) : Df W H (.str s) (.str s)
  | obj {a : Addr} : a ∉ W → H a ≠ none → Df W H (.ref a) (ob a)
  | lst {a : Addr} {xs : List V} {ds : List PyData} : a ∉ W → H a = some (.lst xs) → DfAll W H xs ds → Df W H (.ref a) (.list ds)
  | tup {a : Addr} {xs : List V} {ds : List PyData} : a ∉ W → H a = some (.tup xs) → DfAll W H xs ds → Df W H (.ref a) (.tuple ds)
inductive DfAll (W : List Addr) (H : Hp) : List L2.V → List PyData → Prop
  | nil : DfAll W H [] []
  | cons {v : V} {d : PyData} {vs : List V} {ds : List PyData} : Df W H v d → DfAll W H vs ds → DfAll W H (v :: vs) (d :: ds)
end
section
variable {U W W' : List Addr} {H H' : Hp} {v : V} {d : PyData} {vs : List L2.V} {ds : List PyData} {K : PySem.W.Frag} {p a : Addr}
mutual
theorem Df.ed (e : Ed U H H') (hv : ∀ a ∈ U, a ∈ W) : ∀ {v : L2.V} {d : PyData}, Df W H v d → Df W H' v d
  | _, _, .non => .non
  | _, _, .bl b => .bl b
  | _, _, .int b => .int b
  | _, _, .str b => .str b
  | _, _, .obj n h => .obj n (e.2 _ h)
  | _, _, .lst n h r => .lst n (e.1 _ _ (fun z => n (hv _ z)) h) (DfAll.ed e hv r)
  | _, _, .tup n h r => .tup n (e.1 _ _ (fun z => n (hv _ z)) h) (DfAll.ed e hv r)
theorem DfAll.ed (e : Ed U H H') (hv : ∀ a ∈ U, a ∈ W) : ∀ {vs : List L2.V} {ds : List PyData}, DfAll W H vs ds → DfAll W H' vs ds
  | _, _, .nil => .nil
  | _, _, .cons h r => .cons (Df.ed e hv h) (DfAll.ed e hv r)
end
mutual
theorem Df.weak (hv : ∀ a ∈ W', a ∈ W) : ∀ {v : L2.V} {d : PyData}, Df W H v d → Df W' H v d
  | _, _, .non => .non
  | _, _, .bl b => .bl b
  | _, _, .int b => .int b
  | _, _, .str b => .str b
  | _, _, .obj n h => .obj (fun z => n (hv _ z)) h
  | _, _, .lst n h r => .lst (fun z => n (hv _ z)) h (DfAll.weak hv r)
  | _, _, .tup n h r => .tup (fun z => n (hv _ z)) h (DfAll.weak hv r)
theorem DfAll.weak (hv : ∀ a ∈ W', a ∈ W) : ∀ {vs : List L2.V} {ds : List PyData}, DfAll W H vs ds → DfAll W' H vs ds
  | _, _, .nil => .nil
  | _, _, .cons h r => .cons (Df.weak hv h) (DfAll.weak hv r)
end
mutual
theorem Df.more (hp : H p = none) : ∀ {v : L2.V} {d : PyData}, Df W H v d → Df (p :: W) H v d
  | _, _, .non => .non
  | _, _, .bl b => .bl b
  | _, _, .int b => .int b
  | _, _, .str b => .str b
  | _, _, .obj n h => .obj (fun z => (List.mem_cons.mp z).elim (fun q => h (by rw [q]; exact hp)) n) h
  | _, _, .lst n h r => .lst (fun z => (List.mem_cons.mp z).elim (ne_of_none h hp) n) h (DfAll.more hp r)
  | _, _, .tup n h r => .tup (fun z => (List.mem_cons.mp z).elim (ne_of_none h hp) n) h (DfAll.more hp r)
theorem DfAll.more (hp : H p = none) : ∀ {vs : List L2.V} {ds : List PyData}, DfAll W H vs ds → DfAll (p :: W) H vs ds
  | _, _, .nil => .nil
  | _, _, .cons h r => .cons (Df.more hp h) (DfAll.more hp r)
end
mutual
theorem Df.dp : ∀ {v : L2.V} {d : PyData}, Df W H v d → noD d = true → Dp K H v d
  | _, _, .non, _ => .non
  | _, _, .bl b, _ => .bl b
  | _, _, .int b, _ => .int b
  | _, _, .str b, _ => .str b
  | _, _, .obj _ _, h => by simp [noD] at h
  | _, _, .lst _ h r, q => .lst (SqL.of h) (DfAll.dp r (by simpa [noD] using q))
  | _, _, .tup _ h r, q => .tup (SqT.of h) (DfAll.dp r (by simpa [noD] using q))
theorem DfAll.dp : ∀ {vs : List L2.V} {ds : List PyData}, DfAll W H vs ds → noDs ds = true → DpAll K H vs ds
  | _, _, .nil, _ => .nil
  | _, _, .cons h r, q => .cons (Df.dp h (by simp [noDs] at q; exact q.1)) (DfAll.dp r (by simp [noDs] at q; exact q.2))
end
theorem DfAll.length : ∀ {vs : List L2.V} {ds : List PyData}, DfAll W H vs ds → vs.length = ds.length
  | _, _, .nil => rfl
  | _, _, .cons _ r => by rw [List.length_cons, List.length_cons, DfAll.length r]
theorem DfAll.at : ∀ {vs : List L2.V} {ds : List PyData} {i : Nat} {d : PyData}, DfAll W H vs ds → ds[i]? = some d → ∃ v, vs[i]? = some v ∧ Df W H v d
  | _, _, _, _, .nil, e => by simp at e
  | _, _, 0, _, .cons h _, e => by simp at e; subst e; exact ⟨_, rfl, h⟩
  | _, _, i + 1, _, .cons _ r, e => by
    obtain ⟨v, h1, h2⟩ := DfAll.at r (i := i) (by simpa using e)
    exact ⟨v, by simpa using h1, h2⟩
theorem DfAll.at' : ∀ {vs : List L2.V} {ds : List PyData} {i : Nat} {v : L2.V}, DfAll W H vs ds → vs[i]? = some v → ∃ d, ds[i]? = some d ∧ Df W H v d
  | _, _, _, _, .nil, e => by simp at e
  | _, _, 0, _, .cons h _, e => by simp at e; subst e; exact ⟨_, rfl, h⟩
  | _, _, i + 1, _, .cons _ r, e => by
    obtain ⟨v, h1, h2⟩ := DfAll.at' r (i := i) (by simpa using e)
    exact ⟨v, by simpa using h1, h2⟩
theorem DfAll.app : ∀ {vs ws : List L2.V} {ds es : List PyData}, DfAll W H vs ds → DfAll W H ws es → DfAll W H (vs ++ ws) (ds ++ es)
  | _, _, _, _, .nil, h => h
  | _, _, _, _, .cons h r, q => .cons h (DfAll.app r q)
theorem DfAll.snoc {vs : List L2.V} {ds : List PyData} (h : DfAll W H vs ds) (q : Df W H v d) : DfAll W H (vs ++ [v]) (ds ++ [d]) := h.app (.cons q .nil)
theorem DfAll.drop : ∀ {vs : List L2.V} {ds : List PyData} (n : Nat), DfAll W H vs ds → DfAll W H (vs.drop n) (ds.drop n)
  | _, _, 0, h => h
  | _, _, _ + 1, .nil => .nil
  | _, _, n + 1, .cons _ r => DfAll.drop n r
theorem DfAll.take : ∀ {vs : List L2.V} {ds : List PyData} (n : Nat), DfAll W H vs ds → DfAll W H (vs.take n) (ds.take n)
  | _, _, 0, _ => .nil
  | _, _, _ + 1, .nil => .nil
  | _, _, n + 1, .cons h r => .cons h (DfAll.take n r)
theorem DfAll.strs (xs : List Str) : DfAll W H (xs.map L2.V.str) (xs.map PyData.str) := by
  induction xs with
  | nil => exact .nil
  | cons x r ih => exact .cons (.str x) ih
theorem DfAll.ints (xs : List Int) : DfAll W H (xs.map L2.V.int) (xs.map PyData.int) := by
  induction xs with
  | nil => exact .nil
  | cons x r ih => exact .cons (.int x) ih
theorem DfAll.bools (xs : List Bool) : DfAll W H (xs.map L2.V.bl) (xs.map PyData.bool) := by
  induction xs with
  | nil => exact .nil
  | cons x r ih => exact .cons (.bl x) ih
theorem DfAll.strs' : ∀ {xs : List Str} {vs : List L2.V}, DfAll W H vs (xs.map PyData.str) → vs = xs.map L2.V.str
  | [], _, .nil => rfl
  | x :: r, _, .cons (.str _) h => by rw [DfAll.strs' h]; rfl
theorem DfAll.ints' : ∀ {xs : List Int} {vs : List L2.V}, DfAll W H vs (xs.map PyData.int) → vs = xs.map L2.V.int
  | [], _, .nil => rfl
  | x :: r, _, .cons (.int _) h => by rw [DfAll.ints' h]; rfl
theorem DfAll.bools' : ∀ {xs : List Bool} {vs : List L2.V}, DfAll W H vs (xs.map PyData.bool) → vs = xs.map L2.V.bl
  | [], _, .nil => rfl
  | x :: r, _, .cons (.bl _) h => by rw [DfAll.bools' h]; rfl
theorem Df.strL {xs : List Str} (h : Df W H (.ref p) (.list (xs.map PyData.str))) : p ∉ W ∧ H p = some (.lst (xs.map L2.V.str)) := by
  cases h with
  | lst n h r => rw [DfAll.strs' r] at h; exact ⟨n, h⟩
theorem Df.intL {xs : List Int} (h : Df W H (.ref p) (.list (xs.map PyData.int))) : p ∉ W ∧ H p = some (.lst (xs.map L2.V.int)) := by
  cases h with
  | lst n h r => rw [DfAll.ints' r] at h; exact ⟨n, h⟩
theorem Df.boolL {xs : List Bool} (h : Df W H (.ref p) (.list (xs.map PyData.bool))) : p ∉ W ∧ H p = some (.lst (xs.map L2.V.bl)) := by
  cases h with
  | lst n h r => rw [DfAll.bools' r] at h; exact ⟨n, h⟩
theorem Df.ofStrs {xs : List Str} (n : p ∉ W) (h : H p = some (.lst (xs.map L2.V.str))) : Df W H (.ref p) (.list (xs.map PyData.str)) := .lst n h (.strs xs)
theorem Df.ofInts {xs : List Int} (n : p ∉ W) (h : H p = some (.lst (xs.map L2.V.int))) : Df W H (.ref p) (.list (xs.map PyData.int)) := .lst n h (.ints xs)
theorem Df.cells (h : Df W H (.ref p) (.list ds)) : ∃ xs, p ∉ W ∧ H p = some (.lst xs) ∧ DfAll W H xs ds := by
  cases h with
  | lst n h r => exact ⟨_, n, h, r⟩
theorem Df.cellsT (h : Df W H (.ref p) (.tuple ds)) : ∃ xs, p ∉ W ∧ H p = some (.tup xs) ∧ DfAll W H xs ds := by
  cases h with
  | tup n h r => exact ⟨_, n, h, r⟩
theorem Df.isRefL (h : Df W H v (.list ds)) : ∃ p, v = .ref p := by
  cases h with
  | lst n h r => exact ⟨_, rfl⟩
theorem Df.isRefT (h : Df W H v (.tuple ds)) : ∃ p, v = .ref p := by
  cases h with
  | tup n h r => exact ⟨_, rfl⟩
theorem Df.nin (h : Df W H (.ref p) d) : p ∉ W := by
  cases h with
  | obj n _ => exact n
  | lst n _ _ => exact n
  | tup n _ _ => exact n
theorem Df.alive (h : Df W H (.ref p) d) : H p ≠ none := by
  cases h with
  | obj _ h => exact h
  | lst _ h _ => rw [h]; exact fun z => nomatch z
  | tup _ h _ => rw [h]; exact fun z => nomatch z
theorem Df.isObj {a : Addr} (h : Df W H v (ob a)) : v = .ref a := by
  generalize e : ob a = d at h
  cases h with
  | obj n _ => simp [ob] at e; rw [Int.ofNat.inj e]
  | _ => simp [ob] at e
theorem Df.isStr {s : Str} (h : Df W H v (.str s)) : v = .str s := by cases h; rfl
theorem Df.isInt {s : Int} (h : Df W H v (.int s)) : v = .int s := by cases h; rfl
theorem Df.isBool {s : Bool} (h : Df W H v (.bool s)) : v = .bl s := by cases h; rfl
/-- a list that is being built at p -/
def Bld (W : List Addr) (H : Hp) (p : Addr) (ds : List PyData) : Prop := p ∉ W ∧ ∃ xs, H p = some (.lst xs) ∧ DfAll (p :: W) H xs ds
theorem Bld.done (h : Bld W H p ds) : Df W H (.ref p) (.list ds) := by
  obtain ⟨n, xs, h, r⟩ := h
  exact .lst n h (r.weak fun a z => List.mem_cons_of_mem _ z)
theorem Bld.ed (h : Bld W H p ds) (e : Ed U H H') (hv : ∀ a ∈ U, a ∈ W) : Bld W H' p ds := by
  obtain ⟨n, xs, h, r⟩ := h
  exact ⟨n, xs, e.1 _ _ (fun z => n (hv _ z)) h, r.ed e fun a z => List.mem_cons_of_mem _ (hv a z)⟩
theorem Bld.alive (h : Bld W H p ds) : H p ≠ none := by
  obtain ⟨n, xs, h, r⟩ := h
  rw [h]; exact fun z => nomatch z
end
/-! ### steps -/
section
variable {U W W' : List Addr} {H H' : Hp} {Q : VK} {v x y : L2.V} {d e : PyData} {vs : List L2.V} {ds es : List PyData} {K : PySem.W.Frag} {p q : Addr} {i : Int}
/-- a list display, a tuple display: the heap behind it by an edge -/
theorem g_dl (h : DfAll W H vs ds) (w : Wl W H) (z : vs.length ≤ sizeLine) (k : ∀ p H', H p = none → Ed [] H H' → Df W H' (.ref p) (.list ds) → Q (.ref p) H') : vs.length ≤ sizeLine ∧ ∀ p, H p = none → Q (.ref p) (upd H p (.lst vs)) :=
  ⟨z, fun p hp => k p _ hp (Ed.new hp) (.lst (w.not hp) upd_same (h.ed (Ed.new hp) no0))⟩
theorem g_dt (h : DfAll W H vs ds) (w : Wl W H) (z : vs.length ≤ sizeLine) (k : ∀ p H', H p = none → Ed [] H H' → Df W H' (.ref p) (.tuple ds) → Q (.ref p) H') : vs.length ≤ sizeLine ∧ ∀ p, H p = none → Q (.ref p) (upd H p (.tup vs)) :=
  ⟨z, fun p hp => k p _ hp (Ed.new hp) (.tup (w.not hp) upd_same (h.ed (Ed.new hp) no0))⟩
/-- [] that things are put into -/
theorem g_d0 (w : Wl W H) (k : ∀ p H', H p = none → Ed [] H H' → Bld W H' p [] → Q (.ref p) H') : ([] : List L2.V).length ≤ sizeLine ∧ ∀ p, H p = none → Q (.ref p) (upd H p (.lst [])) :=
  ⟨Nat.zero_le _, fun p hp => k p _ hp (Ed.new hp) ⟨w.not hp, [], upd_same, .nil⟩⟩
theorem g_dn (h : DfAll W H vs ds) (w : Wl W H) (k : ∀ p H', H p = none → Ed [] H H' → Df W H' (.ref p) (.list ds) → Q (.ref p) H') : ∀ p, H p = none → Q (.ref p) (upd H p (.lst vs)) :=
  fun p hp => k p _ hp (Ed.new hp) (.lst (w.not hp) upd_same (h.ed (Ed.new hp) no0))
theorem g_dns {ts : List Str} (w : Wl W H) (k : ∀ p H', H p = none → Ed [] H H' → Df W H' (.ref p) (.list (ts.map PyData.str)) → Q (.ref p) H') : ∀ p, H p = none → Q (.ref p) (upd H p (.lst (ts.map L2.V.str))) := g_dn (.strs ts) w k
theorem g_bap (h : Bld W H p ds) (hy : Df (p :: W) H y d) (z : ds.length < sizeLine) (k : ∀ H', Ed [p] H H' → Bld W H' p (ds ++ [d]) → Q .non H') : rAppend (.ref p) [y] H Q := by
  obtain ⟨n, xs, h, r⟩ := h
  refine ⟨p, xs, y, rfl, rfl, h, by rw [r.length]; exact z, k _ Ed.put ⟨n, _, upd_same, ?_⟩⟩
  exact (r.snoc hy).ed Ed.put fun a z => by rw [List.mem_singleton.mp z]; exact List.mem_cons_self ..
theorem at_df {xs : List L2.V} (r : DfAll W H xs ds) (z : atI ds i = some d) : ∃ v, atI xs i = some v ∧ Df W H v d := by
  unfold atI at z ⊢
  rw [r.length]
  cases e : ixN ds.length i with
  | none => rw [e] at z; cases z
  | some j =>
    rw [e] at z
    exact r.at z
theorem g_ixd (h : Df W H (.ref p) (.list ds)) (z : atI ds i = some d) (k : ∀ v, Df W H v d → Q v H) : dIx K (.ref p) (.int i) H Q := by
  obtain ⟨xs, n, hp, r⟩ := h.cells
  obtain ⟨v, h1, h2⟩ := at_df r z
  exact g_ix_l (Or.inl (SqL.of hp)) h1 (k v h2)
theorem g_ixt (h : Df W H (.ref p) (.tuple ds)) (z : atI ds i = some d) (k : ∀ v, Df W H v d → Q v H) : dIx K (.ref p) (.int i) H Q := by
  obtain ⟨xs, n, hp, r⟩ := h.cellsT
  obtain ⟨v, h1, h2⟩ := at_df r z
  exact g_ix_l (Or.inr (SqT.of hp)) h1 (k v h2)
theorem g_lend (h : Df W H (.ref p) (.list ds)) (k : Q (.int ds.length) H) : dLen K [.ref p] H Q := by
  obtain ⟨xs, n, hp, r⟩ := h.cells
  exact g_len_l (Or.inl (SqL.of hp)) (by rw [r.length]; exact k)
theorem g_lent (h : Df W H (.ref p) (.tuple ds)) (k : Q (.int ds.length) H) : dLen K [.ref p] H Q := by
  obtain ⟨xs, n, hp, r⟩ := h.cellsT
  exact g_len_l (Or.inr (SqT.of hp)) (by rw [r.length]; exact k)
theorem g_eqd (h1 : Df W H x d) (h2 : Df W' H y e) (s1 : Sh d) (s2 : Sh e) (k : Q (.bl (PyData.eqv d e)) H) : dEq K x y H Q := .inr ⟨d, e, h1.dp s1.2, h2.dp s2.2, s1.1, s2.1, k⟩
theorem g_ned (h1 : Df W H x d) (h2 : Df W' H y e) (s1 : Sh d) (s2 : Sh e) (k : Q (.bl (!PyData.eqv d e)) H) : dNe K x y H Q := .inr ⟨d, e, h1.dp s1.2, h2.dp s2.2, s1.1, s2.1, k⟩
theorem g_addd (h1 : Df W H (.ref p) (.list ds)) (h2 : Df W H (.ref q) (.list es)) (w : Wl W H) (z : ds.length + es.length ≤ sizeLine) (k : ∀ p H', H p = none → Ed [] H H' → Df W H' (.ref p) (.list (ds ++ es)) → Q (.ref p) H') : dAdd (.ref p) (.ref q) H Q := by
  obtain ⟨xs, n, hp, r⟩ := h1.cells
  obtain ⟨ys, m, hq, t⟩ := h2.cells
  exact ⟨xs, ys, hp, hq, by rw [r.length, t.length]; exact z, g_dn (r.app t) w k⟩
/-- list(p) -/
theorem g_listd (h : Df W H (.ref p) (.list ds)) (w : Wl W H) (k : ∀ p H', H p = none → Ed [] H H' → Df W H' (.ref p) (.list ds) → Q (.ref p) H') : dList K [.ref p] H Q := by
  obtain ⟨xs, n, hp, r⟩ := h.cells
  exact g_listL (Or.inl (SqL.of hp)) (g_dn r w k)
theorem cutV_len {α : Type} {xs : List L2.V} {ys : List α} (e : xs.length = ys.length) : True := trivial
def cutD (xs : List PyData) (lo hi : Option Int) : List PyData := (xs.drop (HT.sIx xs.length 0 lo)).take (HT.sIx xs.length xs.length hi - HT.sIx xs.length 0 lo)
theorem g_sld {lo hi : Option Int} (h : Df W H (.ref p) (.list ds)) (w : Wl W H) (k : ∀ p H', H p = none → Ed [] H H' → Df W H' (.ref p) (.list (cutD ds lo hi)) → Q (.ref p) H') : dSl K (.ref p) lo hi H Q := by
  obtain ⟨xs, n, hp, r⟩ := h.cells
  refine g_slL (SqL.of hp) (g_dn (ds := cutD ds lo hi) ?_ w k)
  unfold cutV cutD
  rw [r.length]
  exact (r.drop _).take _
theorem g_inds {t : Str} {ns : List Str} (h : Df W H (.ref p) (.list (ns.map PyData.str))) (k : Q (.bl (decide (t ∈ ns))) H) : dIn K (.str t) (.ref p) H Q := g_inLs (Or.inl (SqL.of h.strL.2)) k
theorem g_ninds {t : Str} {ns : List Str} (h : Df W H (.ref p) (.list (ns.map PyData.str))) (k : Q (.bl (!decide (t ∈ ns))) H) : dNotIn K (.str t) (.ref p) H Q := g_ninLs (Or.inl (SqL.of h.strL.2)) k
theorem g_joind {a : Str} {ys : List Str} (h : Df W H (.ref p) (.list (ys.map PyData.str))) (z2 : (ys.map (·.length)).sum + ys.length * a.length ≤ 16777216) (k : Q (.str (Txt.join a ys)) H) : dJoin K (.str a) [.ref p] H Q := g_join (Or.inl (SqL.of h.strL.2)) z2 k
/-- a tuple unpacked -/
theorem g_gtupd {n : Nat} {t : TGs} {σ : L2.St} {QS : L2.St → Hp → Prop} (h : Df W H (.ref p) (.tuple ds)) (z : ds.length = n) (k : ∀ xs, DfAll W H xs ds → t xs σ H QS) : gTL K n t (.ref p) σ H QS := by
  obtain ⟨xs, n, hp, r⟩ := h.cellsT
  exact g_gtup (SqT.of hp) (by rw [r.length]; exact z) (k xs r)
theorem g_gtupld {n : Nat} {t : TGs} {σ : L2.St} {QS : L2.St → Hp → Prop} (h : Df W H (.ref p) (.list ds)) (z : ds.length = n) (k : ∀ xs, DfAll W H xs ds → t xs σ H QS) : gTL K n t (.ref p) σ H QS := by
  obtain ⟨xs, n, hp, r⟩ := h.cells
  exact g_gtupL (SqL.of hp) (by rw [r.length]; exact z) (k xs r)
theorem g_iLd {Z : Addr → Prop} (z : Df W H (.ref p) (.list ds)) (h : Z p) : ∃ a, L2.V.ref p = .ref a ∧ (∃ xs, SqL K H a xs) ∧ Z a := by
  obtain ⟨xs, n, hp, r⟩ := z.cells
  exact ⟨p, rfl, ⟨xs, SqL.of hp⟩, h⟩
theorem g_iEd {Z : Addr → Prop} (z : Df W H (.ref p) (.list ds)) (h : Z p) : ∃ a xs, [L2.V.ref p] = [.ref a] ∧ SqL K H a xs ∧ Z a := by
  obtain ⟨xs, n, hp, r⟩ := z.cells
  exact ⟨p, xs, rfl, SqL.of hp, h⟩
theorem g_isid {t u : Value} {c : L2.V} {b : Bool} (h1 : ClsV c u) (h2 : TyX K H x t) (h3 : PySem.W.kitOne K t u = some b) (h : Q (.bl b) H) : dIsi K [x, c] H Q := g_isi h1 h2 h3 h
end
section
variable {W : List Addr} {H H' : Hp} {p : Addr} {vs : List L2.V} {ds : List PyData} {ts : List Str}
theorem new_l (h : upd H p (.lst vs) = H') (hp : H p = none) (r : DfAll W H vs ds) (w : Wl W H) : Ed [] H H' ∧ Df W H' (.ref p) (.list ds) := by
  subst h
  exact ⟨Ed.new hp, .lst (w.not hp) upd_same (r.ed (Ed.new hp) no0)⟩
theorem new_t (h : upd H p (.tup vs) = H') (hp : H p = none) (r : DfAll W H vs ds) (w : Wl W H) : Ed [] H H' ∧ Df W H' (.ref p) (.tuple ds) := by
  subst h
  exact ⟨Ed.new hp, .tup (w.not hp) upd_same (r.ed (Ed.new hp) no0)⟩
theorem new_b (h : upd H p (.lst []) = H') (hp : H p = none) (w : Wl W H) : Ed [] H H' ∧ Bld W H' p [] := by
  subst h
  exact ⟨Ed.new hp, w.not hp, [], upd_same, .nil⟩
theorem new_s (h : upd H p (.lst (ts.map L2.V.str)) = H') (hp : H p = none) (w : Wl W H) : Ed [] H H' ∧ Df W H' (.ref p) (.list (ts.map PyData.str)) := new_l h hp (.strs ts) w
end
/-! ### loops over data -/
section
variable {U W : List Addr} {H H' : Hp} {σ : L2.St} {ds : List PyData} {K : PySem.W.Frag} {p : Addr} {g : TG} {tb : TS} {nx : L2.St → Hp → Prop} {rt : VK} {bk ct : L2.St → Hp → Prop}
theorem lp_df (h : Df W H (.ref p) (.list ds)) (Pv : Nat → L2.St → Hp → Prop) (h0 : Pv 0 σ H) (hk : ∀ i σ' H', i ≤ ds.length → Pv i σ' H' → Ed W H H')
    (hs : ∀ i x d σ' H', ds[i]? = some d → Pv i σ' H' → Df W H' x d → g x σ' H' fun σ2 H2 => tb ⟨Pv (i + 1), rt, nx, Pv (i + 1)⟩ σ2 H2) (hn : ∀ σ' H', Pv ds.length σ' H' → nx σ' H') : Loop (Itl K p) g tb ⟨nx, rt, bk, ct⟩ σ H := by
  obtain ⟨xs, n, hp, r⟩ := h.cells
  refine lp_it (walk_list (xs := xs)) Pv h0 (fun i σ' H' hi hP => SqL.of ((hk i σ' H' (by rw [← r.length]; exact hi) hP).1 _ _ n hp)) ?_ (by rw [r.length]; exact hn)
  rintro i x σ' H' H2 hi hP ⟨rfl, e⟩
  have ee := hk i σ' _ (by rw [← r.length]; omega) hP
  obtain ⟨d, e1, e2⟩ := (r.ed ee fun _ z => z).at' e
  exact hs i x d σ' _ e1 hP e2
theorem lp_en (h : Df W H (.ref p) (.list ds)) (Pv : Nat → L2.St → Hp → Prop) (h0 : Pv 0 σ H) (hk : ∀ i σ' H', i ≤ ds.length → Pv i σ' H' → Ed W H H') (hw : Wl W H)
    (hs : ∀ i x t d σ' H' H2, ds[i]? = some d → Pv i σ' H' → Ed [] H' H2 → SqT K H2 t [.int (i : Nat), x] → Df W H2 x d → g (.ref t) σ' H2 fun σ2 H2 => tb ⟨Pv (i + 1), rt, nx, Pv (i + 1)⟩ σ2 H2) (hn : ∀ σ' H', Pv ds.length σ' H' → nx σ' H') : Loop (Ite K p) g tb ⟨nx, rt, bk, ct⟩ σ H := by
  obtain ⟨xs, n, hp, r⟩ := h.cells
  refine lp_it (walk_enum (xs := xs)) Pv h0 (fun i σ' H' hi hP => SqL.of ((hk i σ' H' (by rw [← r.length]; exact hi) hP).1 _ _ n hp)) ?_ (by rw [r.length]; exact hn)
  rintro i x σ' H' H2 hi hP ⟨t, x1, y1, rfl, ht, rfl, e1, e2⟩
  cases e1
  have ee := hk i σ' H' (by rw [← r.length]; omega) hP
  obtain ⟨d, e3, e4⟩ := (r.ed ee fun _ z => z).at' e2
  exact hs i _ t d σ' H' _ e3 hP (Ed.new ht) (SqT.of upd_same) (e4.ed (Ed.new ht) no0)
variable {tt : TT} {te : TE} {ws : List Nat} {D : Addr} {Qd : Hp → Prop}
/-- a list comprehension: an invariant over what is made so far; J1 of the heap -/
theorem lc_gen {σw : L2.St} (hσ : wipe σ ws = σw) {J : It} {n : Nat} {G : Hp → Prop} {Y : Nat → Hp → L2.V → Hp → Prop} (w : Walk J n G Y) (hn : n < sizeLine) (hD : H D = none) (hw : Wl W H) (hV : ∀ a ∈ U, a ∈ W) (I : Nat → List PyData → Prop) (J1 : Hp → Prop) (hJ : ∀ H' H'', J1 H' → Ed [D] H' H'' → J1 H'') (hJ0 : J1 H) (hI0 : I 0 [])
    (hG : ∀ H', Ed U H H' → G H')
    (hs : ∀ i x acc H' H2 (R : VK) (N : Hp → Prop), i < n → I i acc → J1 H' → Ed U H H' → Wl (D :: W) H' → Y i H' x H2 → (∀ y H4 dy, Ed U H' H4 → Df (D :: W) H4 y dy → J1 H4 → I (i + 1) (acc ++ [dy]) → R y H4) → (∀ H3, Ed U H' H3 → J1 H3 → I (i + 1) acc → N H3) →
      g x σw H2 fun σ2 H2 => wipe σ2 ws = σw ∧ tt σ2 H2 fun b H3 => if b = true then te σ2 H3 R else N H3)
    (hd : ∀ acc H', I n acc → J1 H' → Ed U H H' → Df W H' (.ref D) (.list acc) → acc.length ≤ n → Qd H') : LoopC J g tt te ws σ H D Qd := by
  subst hσ
  have nD : D ∉ U := fun z => hw D (hV D z) hD
  have nDW : D ∉ W := fun z => hw D z hD
  have e0 : ∀ {H1 H2 : Hp} {T : List Addr}, Ed U H H1 → Ed T H1 H2 → (∀ a ∈ T, a ∈ U ∨ a = D) → Ed U H H2 := fun h1 h2 hu => Ed.tr h1 h2 fun a ha => (hu a ha).elim .inl fun z => .inr (z ▸ hD)
  refine lc_by w (fun i H' => ∃ acc, Ed U H H' ∧ J1 H' ∧ I i acc ∧ Bld W H' D acc ∧ acc.length ≤ i) ⟨[], e0 Ed.refl (Ed.new hD) (no0), hJ _ _ hJ0 Ed.put, hI0, ⟨nDW, [], upd_same, .nil⟩, Nat.le_refl _⟩ (fun i H' _ ⟨acc, h1, _⟩ => hG _ h1) ?_ ?_
  · rintro i x H1 H2 hi ⟨acc, h1, h2, h3, h4, h5⟩ hy
    have hD1 : H1 D ≠ none := h4.alive
    refine hs i x acc H1 H2 _ _ hi h3 h2 h1 (fun a ha => ?_) hy ?_ ?_
    · rcases List.mem_cons.mp ha with rfl | ha
      · exact hD1
      · exact hw.ed h1 a ha
    · intro y H4 dy z4 z5 z6 z7
      obtain ⟨m, xs, z8, z9⟩ := h4.ed z4 hV
      exact ⟨xs, z8, by rw [z9.length]; omega, acc ++ [dy], e0 (e0 h1 z4 fun a h => .inl h) Ed.put (fun a h => .inr (List.mem_singleton.mp h)), hJ _ _ z6 Ed.put, z7, ⟨nDW, _, upd_same, (z9.snoc z5).ed Ed.put fun a z => by rw [List.mem_singleton.mp z]; exact List.mem_cons_self ..⟩, by rw [List.length_append, List.length_singleton]; omega⟩
    · intro H3 z3 z4 z5
      exact ⟨acc, e0 h1 z3 fun a h => .inl h, z4, z5, h4.ed z3 hV, by omega⟩
  · rintro H1 ⟨acc, h1, h2, h3, h4, h5⟩
    exact hd acc H1 h3 h2 h1 h4.done h5
/-- over a list of data -/
theorem lc_df {σw : L2.St} (hσ : wipe σ ws = σw) (h : Df W H (.ref p) (.list ds)) (hn : ds.length < sizeLine) (hD : H D = none) (hw : Wl W H) (hV : ∀ a ∈ U, a ∈ W) (I : Nat → List PyData → Prop) (J1 : Hp → Prop) (hJ : ∀ H' H'', J1 H' → Ed [D] H' H'' → J1 H'') (hJ0 : J1 H) (hI0 : I 0 [])
    (hs : ∀ i x d acc H' (R : VK) (N : Hp → Prop), ds[i]? = some d → I i acc → J1 H' → Ed U H H' → Wl (D :: W) H' → Df (D :: W) H' x d → (∀ y H4 dy, Ed U H' H4 → Df (D :: W) H4 y dy → J1 H4 → I (i + 1) (acc ++ [dy]) → R y H4) → (∀ H3, Ed U H' H3 → J1 H3 → I (i + 1) acc → N H3) →
      g x σw H' fun σ2 H2 => wipe σ2 ws = σw ∧ tt σ2 H2 fun b H3 => if b = true then te σ2 H3 R else N H3)
    (hd : ∀ acc H', I ds.length acc → J1 H' → Ed U H H' → Df W H' (.ref D) (.list acc) → acc.length ≤ ds.length → Qd H') : LoopC (Itl K p) g tt te ws σ H D Qd := by
  have h' := h.more hD
  obtain ⟨xs, n, hp, r⟩ := h'.cells
  have hVW : ∀ a ∈ U, a ∈ D :: W := fun a z => List.mem_cons_of_mem _ (hV a z)
  have l := r.length
  refine lc_gen hσ (walk_list (xs := xs)) (by rw [l]; exact hn) hD hw hV I J1 hJ hJ0 hI0 (fun H' e => SqL.of (e.1 _ _ (fun z => n (hVW _ z)) hp)) ?_ (by rw [l]; exact hd)
  rintro i x acc H1 H2 R N hi h1 h2 h3 h4 ⟨rfl, e⟩ h5 h6
  obtain ⟨d, e1, e2⟩ := (r.ed h3 hVW).at' e
  exact hs i x d acc _ R N e1 h1 h2 h3 h4 e2 h5 h6
/-- over range(n) -/
theorem lc_rg {σw : L2.St} (hσ : wipe σ ws = σw) {n : Nat} {lo : Int} (hn : n < sizeLine) (hD : H D = none) (hw : Wl W H) (hV : ∀ a ∈ U, a ∈ W) (I : Nat → List PyData → Prop) (J1 : Hp → Prop) (hJ : ∀ H' H'', J1 H' → Ed [D] H' H'' → J1 H'') (hJ0 : J1 H) (hI0 : I 0 [])
    (hs : ∀ i acc H' (R : VK) (N : Hp → Prop), i < n → I i acc → J1 H' → Ed U H H' → Wl (D :: W) H' → (∀ y H4 dy, Ed U H' H4 → Df (D :: W) H4 y dy → J1 H4 → I (i + 1) (acc ++ [dy]) → R y H4) → (∀ H3, Ed U H' H3 → J1 H3 → I (i + 1) acc → N H3) →
      g (.int (lo + (i : Nat))) σw H' fun σ2 H2 => wipe σ2 ws = σw ∧ tt σ2 H2 fun b H3 => if b = true then te σ2 H3 R else N H3)
    (hd : ∀ acc H', I n acc → J1 H' → Ed U H H' → Df W H' (.ref D) (.list acc) → acc.length ≤ n → Qd H') : LoopC (Itr lo n) g tt te ws σ H D Qd := by
  refine lc_gen hσ walk_range hn hD hw hV I J1 hJ hJ0 hI0 (fun _ _ => trivial) ?_ hd
  rintro i x acc H1 H2 R N hi h1 h2 h3 h4 ⟨rfl, rfl⟩ h5 h6
  exact hs i acc _ R N hi h1 h2 h3 h4 h5 h6
/-- over enumerate(list) -/
theorem lc_en {σw : L2.St} (hσ : wipe σ ws = σw) (h : Df W H (.ref p) (.list ds)) (hn : ds.length < sizeLine) (hD : H D = none) (hw : Wl W H) (hV : ∀ a ∈ U, a ∈ W) (I : Nat → List PyData → Prop) (J1 : Hp → Prop) (hJ : ∀ H' H'', J1 H' → Ed [D] H' H'' → J1 H'') (hJn : ∀ H' H'', J1 H' → Ed [] H' H'' → J1 H'') (hJ0 : J1 H) (hI0 : I 0 [])
    (hs : ∀ i x t d acc H' (R : VK) (N : Hp → Prop), ds[i]? = some d → I i acc → J1 H' → Ed U H H' → Wl (D :: W) H' → SqT K H' t [.int (i : Nat), x] → Df (D :: W) H' x d → (∀ y H4 dy, Ed U H' H4 → Df (D :: W) H4 y dy → J1 H4 → I (i + 1) (acc ++ [dy]) → R y H4) → (∀ H3, Ed U H' H3 → J1 H3 → I (i + 1) acc → N H3) →
      g (.ref t) σw H' fun σ2 H2 => wipe σ2 ws = σw ∧ tt σ2 H2 fun b H3 => if b = true then te σ2 H3 R else N H3)
    (hd : ∀ acc H', I ds.length acc → J1 H' → Ed U H H' → Df W H' (.ref D) (.list acc) → acc.length ≤ ds.length → Qd H') : LoopC (Ite K p) g tt te ws σ H D Qd := by
  have h' := h.more hD
  obtain ⟨xs, n, hp, r⟩ := h'.cells
  have hVW : ∀ a ∈ U, a ∈ D :: W := fun a z => List.mem_cons_of_mem _ (hV a z)
  have l := r.length
  refine lc_gen hσ (walk_enum (xs := xs)) (by rw [l]; exact hn) hD hw hV I J1 hJ hJ0 hI0 (fun H' e => SqL.of (e.1 _ _ (fun z => n (hVW _ z)) hp)) ?_ (by rw [l]; exact hd)
  rintro i x acc H1 H2 R N hi h1 h2 h3 h4 ⟨t, x1, y1, rfl, ht, rfl, e1, e2⟩ h5 h6
  cases e1
  obtain ⟨d, e3, e4⟩ := (r.ed h3 hVW).at' e2
  have e5 : Ed [] H1 (upd H1 t (.tup [.int (i : Nat), y1])) := Ed.new ht
  exact hs i _ t d acc _ R N e3 h1 (hJn _ _ h2 e5) (h3.tr e5 no0) (h4.ed e5) (SqT.of upd_same) (e4.ed e5 no0) (fun y H4 dy k1 => h5 y H4 dy ((Ed.tr Ed.refl e5 no0).tr k1 fun a z => .inl z)) (fun H3 k1 => h6 H3 ((Ed.tr Ed.refl e5 no0).tr k1 fun a z => .inl z))
end
end NL
namespace NL
open PySem L2
/-- the bag of draws at b: two ints -/
def Bag (H : Hp) (b : Addr) : Prop := ∃ x y : Int, H b = some (.lst [.int x, .int y])
theorem Bag.at {H : Hp} {b : Addr} {x y : Int} : Bag (upd H b (.lst [.int x, .int y])) b := ⟨x, y, upd_same⟩
theorem Bag.new {H : Hp} {b p : Addr} {o : HO} (h : Bag H b) (n : H p = none) : Bag (upd H p o) b := by
  obtain ⟨x, y, e⟩ := h
  exact ⟨x, y, by rw [upd_ne (ne_of_none e n)]; exact e⟩
theorem Bag.put {H : Hp} {b p : Addr} {o : HO} (h : Bag H b) (n : b ≠ p) : Bag (upd H p o) b := by
  obtain ⟨x, y, e⟩ := h
  exact ⟨x, y, by rw [upd_ne n]; exact e⟩
theorem Bag.ne {H : Hp} {b p : Addr} (h : Bag H b) (n : H p = none) : p ≠ b := by
  obtain ⟨x, y, e⟩ := h
  exact (ne_of_none e n).symm
section
variable {U W : List Addr} {H H' : Hp} {b p a : Addr} {ds es : List PyData} {d : PyData} {K : PySem.W.Frag}
theorem Bag.ed (h : Bag H b) (e : Ed U H H') (n : b ∉ U) : Bag H' b := by
  obtain ⟨x, y, q⟩ := h
  exact ⟨x, y, e.1 _ _ n q⟩
theorem Bag.alive (h : Bag H b) : H b ≠ none := by
  obtain ⟨x, y, q⟩ := h
  rw [q]; exact fun z => nomatch z
theorem sub1 (h : b ∈ W) : ∀ a ∈ [b], a ∈ W := fun a z => by rw [List.mem_singleton.mp z]; exact h
theorem sub2 {c : Addr} (h : b ∈ W) (h2 : c ∈ W) : ∀ a ∈ [b, c], a ∈ W := fun a z => by
  rcases List.mem_cons.mp z with rfl | z
  · exact h
  · rw [List.mem_singleton.mp z]; exact h2
theorem subr : ∀ a ∈ W, a ∈ W := fun _ z => z
theorem subc {U : List Addr} (h : ∀ a ∈ U, a ∈ W) : ∀ a ∈ U, a ∈ b :: W := fun a z => List.mem_cons_of_mem _ (h a z)
theorem edv1 (h : b ∈ U ∨ H b = none) : ∀ a ∈ [b], a ∈ U ∨ H a = none := fun a z => by rw [List.mem_singleton.mp z]; exact h
theorem edvl {V : List Addr} (h : ∀ a ∈ V, a ∈ U) : ∀ a ∈ V, a ∈ U ∨ H a = none := fun a z => .inl (h a z)
theorem Wl.cons' (h : H a ≠ none) (r : Wl W H) : Wl (a :: W) H := fun c hc => by
  rcases List.mem_cons.mp hc with rfl | hc
  · exact h
  · exact r c hc
theorem Wl.tail (h : Wl (a :: W) H) : Wl W H := fun c hc => h c (List.mem_cons_of_mem _ hc)
theorem nb_bld (h : Bld W H p ds) (hb : b ∈ W) : b ∉ [p] := fun z => h.1 (by rw [← List.mem_singleton.mp z]; exact hb)
theorem nb_wl (w : Wl W H) (hp : H p = none) (hb : b ∈ W) : b ∉ [p] := fun z => w b hb (by rw [List.mem_singleton.mp z]; exact hp)
theorem Ed.weak {V : List Addr} (e : Ed U H H') (h : ∀ a ∈ U, a ∈ V) : Ed V H H' := ⟨fun a o n q => e.1 a o (fun z => n (h a z)) q, e.2⟩
end
section
variable {U W : List Addr} {H0 H1 H2 : Hp} {p q b : Addr} {v : V} {d : PyData} {ds : List PyData}
theorem Df.via (e : Ed [p] H1 H2) (hp : H0 p = none) (ed : Ed W H0 H2) (h : Df W H0 v d) : Df W H2 v d := h.ed ed subr
theorem Bld.via (e : Ed [p] H1 H2) (hp : H0 p = none) (ed : Ed W H0 H2) (h : Bld W H0 q ds) : Bld W H2 q ds := h.ed ed subr
theorem Bag.via (e : Ed [p] H1 H2) (hp : H0 p = none) (ed : Ed [] H0 H2) (h : Bag H0 b) : Bag H2 b := h.ed ed List.not_mem_nil
end
/-- what lies in H lies in H' -/
def Al (H H' : Hp) : Prop := ∀ a, H a ≠ none → H' a ≠ none
theorem Al.refl {H : Hp} : Al H H := fun _ h => h
theorem Al.of {U : List Addr} {H0 H1 H2 : Hp} (e : Ed U H1 H2) (h : Al H0 H1) : Al H0 H2 := fun a z => e.2 a (h a z)
theorem Al.free {H H' : Hp} {a : Addr} (e : Al H H') (h : H' a = none) : H a = none := by
  by_cases z : H a = none
  · exact z
  · exact absurd h (e a z)
theorem bagJ {W : List Addr} {H : Hp} {b D : Addr} (w : Wl W H) (hD : H D = none) (hb : b ∈ W) : ∀ H' H'', Bag H' b → Ed [D] H' H'' → Bag H'' b := fun _ _ h e => h.ed e (nb_wl w hD hb)
theorem eqv_nil {ds : List PyData} : PyData.eqv (.list ds) (.list []) = ds.isEmpty := by
  cases ds with
  | nil => rfl
  | cons d r => simp [PyData.eqv, PyData.eqvAll]
theorem Sh.strs {xs : List Str} (h : ∀ x ∈ xs, PyData.strOk x = true) : Sh (.list (xs.map PyData.str)) := (Sd.list (n := 0) (Sd.map fun x hx => Sd.str (h x hx))).sh (by decide)
theorem Sh.nil : Sh (.list []) := (Sd.list (n := 0) Sd.nil).sh (by decide)
theorem Sh.ints {xs : List Int} : Sh (.list (xs.map PyData.int)) := (Sd.list (n := 0) (Sd.map fun x hx => Sd.int x)).sh (by decide)
theorem g_tyB {K : PySem.W.Frag} {W : List Addr} {H : Hp} {p : Addr} {ds : List PyData} {R : Prop} (h : Bld W H p ds) (k : R) : tyV K "list" (.ref p) H ∧ R := by
  obtain ⟨_, xs, h, _⟩ := h
  exact g_tyL (SqL.of h) k
theorem g_tyD {K : PySem.W.Frag} {W : List Addr} {H : Hp} {p : Addr} {ds : List PyData} {R : Prop} (h : Df W H (.ref p) (.list ds)) (k : R) : tyV K "list" (.ref p) H ∧ R := by
  obtain ⟨xs, _, h, _⟩ := h.cells
  exact g_tyL (SqL.of h) k
/-! ### more rules -/
section
variable {X : Cx} (K : PySem.W.Frag) {e e2 : Expr} {ta : TA} {p pos tpos : Pos} {elts : List Expr} {kk : Nat}
theorem q_zip (hg : Gl X "zip") (hm : X.mg "zip" = none) (ha : PA X [e, e2] ta) (h1 : starEach [e, e2] X.env = (false, eval e X.env) :: starEach [e2] X.env := by rfl) (h2 : ((backTo pos (starEach [e2] X.env)).any fun x => x.fst) = false := by rfl) (h : X.K = K := by rfl) :
    PI X (.Tuple elts kk tpos) (.Call (.Name "zip" p) [e, e2] [] pos) (iZip K ta) := h ▸ pi_zip hg hm ha h1 h2
theorem cl_sum0 (hc : X.calm = true) : CallR X (.builtin "sum") (rSum X.K) := cr_sum hc
theorem cl_sum (hc : X.calm = true := by rfl) (h : X.K = K := by rfl) : CallR X (.builtin "sum") (rSum K) := h ▸ cl_sum0 hc
end
section
variable {U V W : List Addr} {H H' : Hp} {σ : L2.St} {ds es : List PyData} {K : PySem.W.Frag} {p q : Addr} {Q : VK}
theorem g_iZ {ta : TA} {R : It → Hp → Prop} (h : ta σ H fun vs H1 => ∃ a b xs ys, vs = [.ref a, .ref b] ∧ SqL K H1 a xs ∧ SqL K H1 b ys ∧ R (Itz K a b) H1) : iZip K ta σ H R := h
theorem g_iZd {Z : Addr → Addr → Prop} (z1 : Df W H (.ref p) (.list ds)) (z2 : Df W H (.ref q) (.list es)) (h : Z p q) : ∃ a b xs ys, [L2.V.ref p, L2.V.ref q] = [.ref a, .ref b] ∧ SqL K H a xs ∧ SqL K H b ys ∧ Z a b := by
  obtain ⟨xs, n, hp, r⟩ := z1.cells
  obtain ⟨ys, m, hq, t⟩ := z2.cells
  exact ⟨p, q, xs, ys, rfl, SqL.of hp, SqL.of hq, h⟩
theorem g_allB {bs : List Bool} (h : Df W H (.ref p) (.list (bs.map PyData.bool))) (k : Q (.bl (bs.all id)) H) : rAll K [.ref p] H Q := ⟨p, bs, rfl, SqL.of h.boolL.2, k⟩
theorem g_sum {ns : List Int} (h : Df W H (.ref p) (.list (ns.map PyData.int))) (k : Q (.int ns.sum) H) : rSum K [.ref p] H Q := ⟨p, ns, rfl, SqL.of h.intL.2, k⟩
variable {g : TG} {tb : TS} {nx : L2.St → Hp → Prop} {rt : VK} {bk ct : L2.St → Hp → Prop}
/-- for x, y in zip(..) -/
theorem lp_zip (h : Df W H (.ref p) (.list ds)) (h2 : Df W H (.ref q) (.list es)) (hl : ds.length = es.length) (hw : Wl W H) (Pv : Nat → L2.St → Hp → Prop) (h0 : Pv 0 σ H) (hk : ∀ i σ' H', i ≤ ds.length → Pv i σ' H' → Ed W H H')
    (hs : ∀ i x y t d e σ' H' H2, ds[i]? = some d → es[i]? = some e → Pv i σ' H' → Ed [] H' H2 → SqT K H2 t [x, y] → Df W H2 x d → Df W H2 y e → g (.ref t) σ' H2 fun σ2 H2 => tb ⟨Pv (i + 1), rt, nx, Pv (i + 1)⟩ σ2 H2) (hn : ∀ σ' H', Pv ds.length σ' H' → nx σ' H') : Loop (Itz K p q) g tb ⟨nx, rt, bk, ct⟩ σ H := by
  obtain ⟨xs, n, hp, r⟩ := h.cells
  obtain ⟨ys, m, hq, u⟩ := h2.cells
  have l1 := r.length
  have l2 := u.length
  refine lp_it (walk_zip (xs := xs) (ys := ys) (n := ds.length) (by rw [l1, l2, ← hl, Nat.min_self])) Pv h0 (fun i σ' H' hi hP => ⟨SqL.of ((hk i σ' H' hi hP).1 _ _ n hp), SqL.of ((hk i σ' H' hi hP).1 _ _ m hq)⟩) ?_ hn
  rintro i x σ' H' H2 hi hP ⟨t, x1, y1, rfl, ht, rfl, e1, e2⟩
  have ee := hk i σ' H' (by omega) hP
  obtain ⟨d, d1, d2⟩ := (r.ed ee fun _ z => z).at' e1
  obtain ⟨e, f1, f2⟩ := (u.ed ee fun _ z => z).at' e2
  exact hs i _ _ t d e σ' H' _ d1 f1 hP (Ed.new ht) (SqT.of upd_same) (d2.ed (Ed.new ht) no0) (f2.ed (Ed.new ht) no0)
end
/-! ### a cut: what comes behind an if, once -/
def tSeqC (t u : TS) : TS := tSeq t u
theorem pss_cut {X : Cx} {s : Stmt} {r : List Stmt} {t u : TS} (h1 : PS X s t) (h2 : PSs X r u) : PSs X (s :: r) (tSeqC t u) := pss_cons h1 h2
theorem g_cut {t u : TS} {nx : L2.St → Hp → Prop} {rt : VK} {bk ct : L2.St → Hp → Prop} {σ : L2.St} {H : Hp} (I : L2.St → Hp → Prop) (h1 : ∀ R : L2.St → Hp → Prop, (∀ σ' H', I σ' H' → R σ' H') → t ⟨R, rt, bk, ct⟩ σ H) (h2 : ∀ σ' H', I σ' H' → u ⟨nx, rt, bk, ct⟩ σ' H') : tSeqC t u ⟨nx, rt, bk, ct⟩ σ H := h1 _ h2
theorem g_par {i j : Nat} {ta : TA} {nx : L2.St → Hp → Prop} {rt : VK} {bk ct : L2.St → Hp → Prop} {σ : L2.St} {H : Hp} (h : ta σ H fun vs H1 => ∃ v w, vs = [v, w] ∧ gName i v σ H1 fun σ1 H2 => gName j w σ1 H2 nx) : tPar i j ta ⟨nx, rt, bk, ct⟩ σ H := h
theorem g_par2 {v w : V} {Z : V → V → Prop} (h : Z v w) : ∃ a b, [v, w] = [a, b] ∧ Z a b := ⟨v, w, rfl, h⟩
/-- a tuple's part -/
theorem sl_tupD {X : Cx} (K : PySem.W.Frag) (h : X.K = K := by rfl) : SlR X (rSlA K) := h ▸ sl_tupA
theorem g_slT {K : PySem.W.Frag} {W : List Addr} {H : Hp} {p : Addr} {ds : List PyData} {lo hi : Option Int} {Q : VK} (h : Df W H (.ref p) (.tuple ds)) (w : Wl W H) (hn : ¬ (HT.sIx ds.length 0 lo = 0 ∧ HT.sIx ds.length ds.length hi = ds.length)) (k : ∀ q H', H q = none → Ed [] H H' → Df W H' (.ref q) (.tuple (cutD ds lo hi)) → Q (.ref q) H') : rSlA K (.ref p) lo hi H Q := by
  obtain ⟨xs, n, hp, r⟩ := h.cellsT
  have l := r.length
  refine ⟨p, xs, rfl, SqT.of hp, fun z => absurd (by rw [← l]; exact z) hn, fun _ q hq => k q _ hq (Ed.new hq) (.tup (w.not hq) upd_same ?_)⟩
  have : DfAll W H (cutV xs lo hi) (cutD ds lo hi) := by
    unfold cutV cutD
    rw [l]
    exact (r.drop _).take _
  exact this.ed (Ed.new hq) no0
theorem g_iTd {K : PySem.W.Frag} {W : List Addr} {H : Hp} {p : Addr} {ds : List PyData} {Z : Addr → Prop} (z : Df W H (.ref p) (.tuple ds)) (h : Z p) : ∃ a, V.ref p = .ref a ∧ (∃ xs, SqT K H a xs) ∧ Z a := by
  obtain ⟨xs, n, hp, r⟩ := z.cellsT
  exact ⟨p, rfl, ⟨xs, SqT.of hp⟩, h⟩
/-- a comprehension over a tuple of data -/
theorem lc_dt {K : PySem.W.Frag} {U W : List Addr} {H : Hp} {p D : Addr} {ds : List PyData} {g : TG} {tt : TT} {te : TE} {ws : List Nat} {σ σw : L2.St} {Qd : Hp → Prop} (hσ : wipe σ ws = σw) (h : Df W H (.ref p) (.tuple ds)) (hn : ds.length < sizeLine) (hD : H D = none) (hw : Wl W H) (hV : ∀ a ∈ U, a ∈ W) (I : Nat → List PyData → Prop) (J1 : Hp → Prop) (hJ : ∀ H' H'', J1 H' → Ed [D] H' H'' → J1 H'') (hJ0 : J1 H) (hI0 : I 0 [])
    (hs : ∀ i x d acc H' (R : VK) (N : Hp → Prop), ds[i]? = some d → I i acc → J1 H' → Ed U H H' → Wl (D :: W) H' → Df (D :: W) H' x d → (∀ y H4 dy, Ed U H' H4 → Df (D :: W) H4 y dy → J1 H4 → I (i + 1) (acc ++ [dy]) → R y H4) → (∀ H3, Ed U H' H3 → J1 H3 → I (i + 1) acc → N H3) →
      g x σw H' fun σ2 H2 => wipe σ2 ws = σw ∧ tt σ2 H2 fun b H3 => if b = true then te σ2 H3 R else N H3)
    (hd : ∀ acc H', I ds.length acc → J1 H' → Ed U H H' → Df W H' (.ref D) (.list acc) → acc.length ≤ ds.length → Qd H') : LoopC (Itt K p) g tt te ws σ H D Qd := by
  have h' := h.more hD
  obtain ⟨xs, n, hp, r⟩ := h'.cellsT
  have hVW : ∀ a ∈ U, a ∈ D :: W := fun a z => List.mem_cons_of_mem _ (hV a z)
  have l := r.length
  refine lc_gen hσ (walk_tup (xs := xs)) (by rw [l]; exact hn) hD hw hV I J1 hJ hJ0 hI0 (fun H' e => SqT.of (e.1 _ _ (fun z => n (hVW _ z)) hp)) ?_ (by rw [l]; exact hd)
  rintro i x acc H1 H2 R N hi h1 h2 h3 h4 ⟨rfl, e⟩ h5 h6
  obtain ⟨d, e1, e2⟩ := (r.ed h3 hVW).at' e
  exact hs i x d acc _ R N e1 h1 h2 h3 h4 e2 h5 h6
theorem g_uncut {t u : TS} {D : Ends} {σ : L2.St} {H : Hp} (h : tSeq t u D σ H) : tSeqC t u D σ H := h
/-! ### dicts of texts -/
section
variable {U W : List Addr} {H H' : Hp} {p : Addr} {K : PySem.W.Frag} {Q : VK}
/-- the dict kvs lies at p, p is not in W -/
def Dk (W : List Addr) (H : Hp) (p : Addr) (kvs : List (Key × V)) : Prop := p ∉ W ∧ H p = some (.dK kvs)
theorem Dk.ed {kvs : List (Key × V)} (h : Dk W H p kvs) (e : Ed U H H') (hv : ∀ a ∈ U, a ∈ W) : Dk W H' p kvs := ⟨h.1, e.1 _ _ (fun z => h.1 (hv _ z)) h.2⟩
theorem Dk.more {kvs : List (Key × V)} {q : Addr} (hq : H q = none) (h : Dk W H p kvs) : Dk (q :: W) H p kvs := ⟨fun z => (List.mem_cons.mp z).elim (ne_of_none h.2 hq) h.1, h.2⟩
theorem Dk.via {kvs : List (Key × V)} {H0 H1 H2 : Hp} {q : Addr} (e : Ed [q] H1 H2) (hq : H0 q = none) (ed : Ed W H0 H2) (h : Dk W H0 p kvs) : Dk W H2 p kvs := h.ed ed subr
theorem Dk.df {kvs : List (Key × V)} (h : Dk W H p kvs) : Df W H (.ref p) (ob p) := .obj h.1 (by rw [h.2]; exact fun z => nomatch z)
theorem Dk.alive {kvs : List (Key × V)} (h : Dk W H p kvs) : H p ≠ none := by rw [h.2]; exact fun z => nomatch z
theorem new_d {kvs : List (Key × V)} {H1 : Hp} (h : upd H' p (.dK kvs) = H1) (w : Wl W H) (hp : H p = none) : Ed [p] H' H1 ∧ Dk W H1 p kvs := by
  subst h
  exact ⟨Ed.put, w.not hp, upd_same⟩
theorem new_e {H1 : Hp} (h : upd H p (.dK []) = H1) (hp : H p = none) (w : Wl W H) : Ed [] H H1 ∧ Dk W H1 p [] := by
  subst h
  exact ⟨Ed.new hp, w.not hp, upd_same⟩
/-- an object made, its __init__ ahead -/
theorem new_i {C x dx : Addr} {H1 : Hp} (h : upd (upd H dx (.own x)) x (.ins C dx []) = H1) (hx : H x = none) (hd : H dx = none) (ne : dx ≠ x) : Ed [] H H1 ∧ H1 x = some (.ins C dx []) := by
  subst h
  refine ⟨⟨fun a o _ e => ?_, fun a z => ?_⟩, upd_same⟩
  · rw [upd_ne (ne_of_none e hx), upd_ne (ne_of_none e hd)]; exact e
  · rw [upd_ne (fun q : a = x => z (by rw [q]; exact hx)), upd_ne (fun q : a = dx => z (by rw [q]; exact hd))]; exact z
def tPs : List (TE × TE) → TE := tDisp
theorem g_disp {trs : List (TE × TE)} {σ : L2.St} (h : ∀ p H0, H p = none → Ed [] H H0 → H0 p = some (.dK []) → tPairs trs σ H0 fun ps H2 => H2 p = some (.dK []) ∧ ∃ kvs : List (Key × V), ps = kvs.map (fun kv => (kV kv.1, kv.2)) ∧ kvs.length ≤ 15 ∧ Q (.ref p) (upd H2 p (.dK (mergeK [] kvs)))) : tDisp trs σ H Q :=
  fun p hp => h p _ hp (Ed.new hp) upd_same
theorem g_pr0 {σ : L2.St} {QP : List (V × V) → Hp → Prop} (h : QP [] H) : tPairs [] σ H QP := h
theorem g_pr {σ : L2.St} {tk tv : TE} {trs : List (TE × TE)} {QP : List (V × V) → Hp → Prop} (h : tk σ H fun x H1 => tv σ H1 fun y H2 => tPairs trs σ H2 fun ps H3 => QP ((x, y) :: ps) H3) : tPairs ((tk, tv) :: trs) σ H QP := h
theorem g_disped {kvs : List (Key × V)} {ps : List (V × V)} (w : Wl W H') (hp : p ∉ W) (h : H' p = some (.dK [])) (e : ps = kvs.map (fun kv => (kV kv.1, kv.2)) := by rfl) (hl : Nat.ble kvs.length 15 = true := by rfl) (k : ∀ H2, Ed [p] H' H2 → Dk W H2 p (mergeK [] kvs) → Q (.ref p) H2) :
    H' p = some (.dK []) ∧ ∃ kvs : List (Key × V), ps = kvs.map (fun kv => (kV kv.1, kv.2)) ∧ kvs.length ≤ 15 ∧ Q (.ref p) (upd H' p (.dK (mergeK [] kvs))) :=
  ⟨h, kvs, e, Nat.le_of_ble_eq_true hl, k _ Ed.put ⟨hp, upd_same⟩⟩
theorem g_din {σ : L2.St} {td ty : TE} (h : ty σ H fun y H1 => td σ H1 fun x H2 => ∃ a o, x = .ref a ∧ DGet H2 a y o ∧ Q (.bl o.isSome) H2) : tDIn ty td σ H Q := h
theorem g_dnin {σ : L2.St} {td ty : TE} (h : ty σ H fun y H1 => td σ H1 fun x H2 => ∃ a o, x = .ref a ∧ DGet H2 a y o ∧ Q (.bl (!o.isSome)) H2) : tDNotIn ty td σ H Q := h
theorem g_dind {kvs : List (Key × V)} {z : Str} {o : Option V} {Z : Option V → Prop} (z1 : Dk W H p kvs) (z2 : valV kvs (.inr z) = o) (h : Z o) : ∃ a o, V.ref p = .ref a ∧ DGet H a (.str z) o ∧ Z o := ⟨p, o, rfl, .inl ⟨kvs, .inr z, .inl z1.2, rfl, z2.symm⟩, h⟩
theorem g_dget2 {σ : L2.St} {td ty tx : TE} (h : td σ H fun x H1 => ∃ a, x = .ref a ∧ IsD H1 a ∧ ty σ H1 fun y H2 => tx σ H2 fun z H3 => ∃ o, DGet H3 a y o ∧ Q (o.getD z) H3) : tDGet2 td ty tx σ H Q := h
theorem g_isd {kvs : List (Key × V)} {Z : Addr → Prop} (z1 : Dk W H p kvs) (h : Z p) : ∃ a, V.ref p = .ref a ∧ IsD H a ∧ Z a := ⟨p, rfl, .inl ⟨kvs, .inl z1.2⟩, h⟩
theorem g_dgo {kvs : List (Key × V)} {z : Str} {o : Option V} {Z : Option V → Prop} (z1 : Dk W H p kvs) (z2 : valV kvs (.inr z) = o) (h : Z o) : ∃ o, DGet H p (.str z) o ∧ Z o := ⟨o, .inl ⟨kvs, .inr z, .inl z1.2, rfl, z2.symm⟩, h⟩
theorem g_dgd {kvs : List (Key × V)} {z : Str} {v : V} {Z : V → Prop} (z1 : Dk W H p kvs) (z2 : valV kvs (.inr z) = some v) (h : Z v) : ∃ a v, V.ref p = .ref a ∧ DGet H a (.str z) (some v) ∧ Z v := g_dgs z1.2 z2 h
end
end NL
namespace NL
open PySem L2
/-! ### a, b, *rest = a list -/
/-- n names, then the starred one -/
def gStarL (K : PySem.W.Frag) (n : Nat) (t : TGs) : TG := fun v σ H Q => ∃ a xs, v = .ref a ∧ SqL K H a xs ∧ n ≤ xs.length ∧ xs.length ≤ 16384 ∧ ∀ p, H p = none → t (xs.take n ++ [.ref p]) σ (upd H p (.lst (xs.drop n))) Q
section
variable {X : Cx} {pos p : Pos}
theorem pgs_star {e : Expr} {t : TG} (h1 : PG X e t) : PGs X [.Starred e p] (gCons t gNil) := by
  refine ⟨fun pins s σ H vs us Q I r h => ?_⟩
  obtain ⟨v, vr, e1, h⟩ := h
  subst e1
  cases r with
  | cons r rr =>
    show wpAny _ _ (assignInOrder (assign e X.env :: (assignEach [] X.env).map (·.2)) _) _ _ _
    refine PyProof.Rows.assignInOrder_cons (thn (h1.run pins s σ H _ _ _ I r h) fun _ s1 ⟨σ1, H1, I1, q1⟩ => ?_)
    exact pgs_nil.run pins s1 σ1 H1 _ _ Q I1 rr q1
theorem pg_starL {es : List Expr} {k n : Nat} {t : TGs} (hc : X.calm = true) (h : PGs X es t)
    (hn : (assignEach es X.env).length = n + 1) (hst : (assignEach es X.env).findIdx? (·.1) = some n) : PG X (.Tuple es k pos) (gStarL X.K n t) := by
  refine ⟨fun pins s σ H v u Q I r hw => ?_⟩
  obtain ⟨a, xs, e1, hq, hl, hz, hw⟩ := hw
  subst e1
  cases r
  obtain ⟨its, rv, pl, _⟩ := I.list hq
  have hli : s.heap.IsList a its.toArray := by
    obtain ⟨o, m, e, c, d, q⟩ := pl
    exact ⟨o, e, c, m, q⟩
  have hsz : its.toArray.size = xs.length := by rw [rv.length]; simp
  have hh := I.ok.hd hc
  have hlt : a ≠ s.heap.objs.size := by obtain ⟨o, ho, _⟩ := hli; exact Nat.ne_of_lt (Heap.lt_size ho)
  rw [PyProof.Rows.assign_Tuple]
  refine wpAny_bind (wpAny_standAt ?_)
  unfold unpack
  rw [hn, hst]
  refine wpAny_bind (wpAny_holding ?_)
  unfold unpackItems
  refine wpAny_bind ?_
  unfold notIterableAtAll
  refine wpAny_bind (wpAny_specialOf hli.typeIs slot_list_iter.lookup ?_)
  refine wpAny_pure ?_
  simp only [Bool.false_eq_true, if_false]
  refine wpAny_bind (wpAny_holding (wpAny_pyIter_list hli ?_))
  refine wpAny_bind (wpAny_holding (PySem.W.kun_draw hlt n 0 _ _ ⟨_, Heap.get?_push_size _ rfl, rfl, rfl⟩ (hli.push _) (by omega) fun h₁ hit₁ hs₁ => ?_))
  have hl₁ : h₁.IsList a its.toArray := (hli.push _).extBut hs₁.extBut hlt
  rw [Nat.zero_add] at hit₁
  have hit₁' := hit₁
  obtain ⟨oi, hoi, _⟩ := hit₁'
  have hl₁' := hl₁
  obtain ⟨ol, hol, _⟩ := hl₁'
  rw [List.drop_zero]
  have el : its.toArray.toList = its := by simp
  have hln : its.length = xs.length := rv.length.symm
  have hfl : (its.toArray.toList.take n).length = n := by rw [el, List.length_take]; omega
  rw [if_neg (show ¬ ((its.toArray.toList.take n).length < n) by rw [hfl]; omega)]
  refine wpAny_bind (wpAny_holding (PySem.W.kun_collect (s := { s with heap := h₁ }) (T := "list_iterator") (.inr (.inr (.inl rfl))) (Walks.list (A := X.A.in1) hh s.heap.objs.size a hlt its.toArray) (fun j u st => st.1.typeIs) (k := n) (by omega) ⟨hit₁, hl₁⟩ (Heap.lt_size hoi) (Heap.lt_size hol) (fun h₂ tk hk => ?_) (by rw [sizeLine_eq]; omega)))
  have he : Heap.ExtBut s.heap.objs.size s.heap h₂ := fun b o hb e => hk b o hb (hs₁.extBut b o hb (Heap.get?_push_of_some _ e))
  have I1 : Inv X pins σ H { s with heap := h₂, toks := tk } := I.kept (t' := tk) fun b o e => he b o (Nat.ne_of_lt (Heap.lt_size e)) e
  have e0 : n + 1 - 1 - n = 0 := by omega
  rw [e0]
  show wpAny _ _ (if (its.toArray.toList.drop n).length < 0 then _ else _) _ _ _
  rw [if_neg (Nat.not_lt_zero _)]
  show wpAny _ _ (newList ((its.toArray.toList.drop n).take ((its.toArray.toList.drop n).length - 0)) >>= fun d => pure (its.toArray.toList.take n ++ [d] ++ (its.toArray.toList.drop n).drop ((its.toArray.toList.drop n).length - 0))) _ _ _
  rw [Nat.sub_zero, List.take_length, List.drop_length, el]
  refine wpAny_bind (wpAny_newList (wpAny_pure ?_) (by rw [List.length_drop, sizeLine_eq]; omega))
  have hf : H h₂.objs.size = none := I1.hok.fresh (Nat.le_refl _)
  have I2 : Inv X pins σ (upd H h₂.objs.size (.lst (xs.drop n))) { s with heap := h₂.push { cls := .type "list", data := .seq (its.drop n).toArray }, toks := tk } :=
    I1.laid (t' := tk) (fun b u e => Heap.get?_push_of_some _ e) (Nat.le_refl _) ⟨by rw [List.length_drop, sizeLine_eq]; omega, its.drop n, 0, Vals.drop n rv, Heap.get?_push_size _ rfl⟩
  rw [List.append_nil]
  exact h.run pins _ σ _ (xs.take n ++ [.ref h₂.objs.size]) _ Q I2 (Vals.append (Vals.take n rv) (.cons (show RelV (V.ref h₂.objs.size) (Value.ref h₂.objs.size) from rfl) .nil)) (hw _ hf)
theorem q_starL (K : PySem.W.Frag) (n : Nat) {es : List Expr} {k : Nat} {t : TGs} (h : PGs X es t) (hc : X.calm = true := by rfl) (hn : (assignEach es X.env).length = n + 1 := by rfl) (hst : (assignEach es X.env).findIdx? (·.1) = some n := by rfl) (hK : X.K = K := by rfl) :
    PG X (.Tuple es k pos) (gStarL K n t) := by subst hK; exact pg_starL hc h hn hst
end
theorem g_starL {K : PySem.W.Frag} {H : Hp} {σ : L2.St} {n : Nat} {t : TGs} {a : Addr} {xs : List V} {QS : L2.St → Hp → Prop} (h1 : SqL K H a xs) (h2 : n ≤ xs.length) (h3 : xs.length ≤ 16384) (h : ∀ p, H p = none → t (xs.take n ++ [.ref p]) σ (upd H p (.lst (xs.drop n))) QS) :
    gStarL K n t (.ref a) σ H QS := ⟨a, xs, rfl, h1, h2, h3, h⟩
/-! ### a class called by a local name -/
section
variable {X : Cx} {k i : Nat} {x m : Str} {C : Addr} {e o : Expr} {es : List Expr} {t : TA} {ta : TE} {p pos apos : Pos} {ps : List Str} {sp : Sp} {W : WX}
def tMakeL (i : Nat) (C : Addr) (sp : Sp) (E : L2.St → XK) (t : TA) : TE := fun σ H Q => σ[i]? = some (some (.ref C)) ∧ tMakeS C sp E t σ H Q
theorem q_makeL (i : Nat) {x0 : Str} (M : MkC X.prog X.w X.K X.mg X.base k x0 C ps sp) (tk : Takes X W) (hr : Room (k + 1) X.A) (ha : PA X (e :: es) t) (hN : X.N[i]? = some x := by rfl) (hv : Vis X.env.scope x := by first | exact .inl rfl | exact .inr (.inl rfl))
    (hdb : (x == ("__debug__" : Str)) = false := by decide) (hcd : (x == ("__classdict__" : Str)) = false := by decide)
    (he : starEach (e :: es) X.env = (false, eval e X.env) :: starEach es X.env := by rfl) (hpl : (backTo pos (starEach es X.env)).any (·.1) = false := by rfl) :
    PE X (.Call (.Name x p) (e :: es) [] pos) (tMakeL i C sp (WE W) t) := by
  obtain ⟨f, fd, M1, hb, F⟩ := M.fn
  refine ⟨fun pins s σ H Q I h => ?_⟩
  obtain ⟨hs, ht⟩ := h
  refine wpAny_Call_Name_kw (thn ((pe_var (pos := p) hN hv hdb hcd).run pins s σ H (fun v H1 => v = .ref C ∧ H1 = H) I ⟨.ref C, hs, rfl, rfl⟩) fun u s1 ⟨v, H1, I1, r1, q1⟩ => ?_)
  obtain ⟨rfl, rfl⟩ := q1
  cases r1
  refine PySem.W.callWith_K (h₀ := X.base) I.ok.mod.kin M1.kp (thn (ha.run pos pins s1 σ _ _ I1 ht) fun us s2 ⟨vs, H2, I2, r, q⟩ => ⟨I2.kIn, ?_⟩) he hpl
  exact run_makeS M1 F hr hb tk I2 r q
theorem g_makeL {E : L2.St → XK} {σ : L2.St} {H : Hp} {Q : VK} (e1 : σ[i]? = some (some (.ref C))) (h : tMakeS C sp E t σ H Q) : tMakeL i C sp E t σ H Q := ⟨e1, h⟩
/-! ### classmethods -/
structure CmC (P : Program) (w : World) (K : PySem.W.Frag) (mg : Str → Option Value) (base : Heap) (k : Nat) (C : Addr) (m : Str) (ps : List Str) (sp : Sp) : Prop where
  rd : ClX.CRead K C (.type "type")
  fn : ∃ (p g : Addr) (fd : FuncData), ClX.CMet K C (.type "type") m p g ∧ Binds K fd ps [] ∧ FnOk P w K mg base (L2.CX P w) k g fd ps sp
def tCM (C : Addr) (sp : Sp) (E : L2.St → XK) (ta : TE) (t : TA) : TE := fun σ H Q => ta σ H fun x H1 => x = .ref C ∧ t σ H1 fun vs H2 => sp (.ref C :: vs) H2 Q (E σ)
theorem run_cmS {g q : Addr} {fd : FuncData} {pins : List (Addr × Obj)} {σ : L2.St} {H : Hp} {s : Shared} {Q : VK} {us : List Value} {vs : List V} (F : FnOk X.prog X.w X.K X.mg X.base (L2.CX X.prog X.w) k g fd ps sp) (hr : Room k X.A) (hb : Binds X.K fd ps [])
    (tk : Takes X W) (I : Inv X ((q, PySem.W.methodObj (.ref g) (.ref C)) :: pins) σ H s) (r : Vals vs us) (h : sp (.ref C :: vs) H Q (WE W σ)) : wpAny (model X.prog X.w) X.A (call (.ref q) us) (EP X pins σ Q) X.xe s := by
  have r2 : Vals (V.ref C :: vs) (Value.ref C :: us) := .cons rfl r
  have hl : (Value.ref C :: us).length = ps.length := by rw [← r2.length]; exact F.len _ _ _ _ h
  have hb2 := hb s (Value.ref C :: us) I.kIn (by rw [List.append_nil]; exact hl)
  rw [List.append_nil] at hb2
  refine wpAny_call (PySem.W.method_call (ClX.pin_at I) (codeAny_mono (F.run X.A X.stack s H ⟨Value.ref C :: us, []⟩ (Value.ref C :: us) (V.ref C :: vs) Q (WE W σ) hr I.env0 hb2 r2 h) fun r s' hq => ?_))
  cases r with
  | error e => exact passAt tk σ _ _ _ e s' I hq
  | ok fl =>
    cases fl with
    | ret u => exact ClX.unpinE (I.after hq)
    | next => exact False.elim hq
    | brk => exact False.elim hq
    | cont => exact False.elim hq
theorem q_cm {pl : Sem Bool} (M : CmC X.prog X.w X.K X.mg X.base k C m ps sp) (tk : Takes X W) (hr : Room k X.A) (he : PE X o ta) (ha : PA X (e :: es) t)
    (hst : starEach (e :: es) X.env = (false, eval e X.env) :: starEach es X.env := by rfl) (hpl : (backTo pos (starEach es X.env)).any (·.1) = false := by rfl)
    (ht : eval (.Call (.Attribute o m apos) (e :: es) [] pos) X.env = (do
      let ov ← eval o X.env
      standAt apos.atName
      let (f, first) ← holding [ov] (getMethod ov m pl)
      callWith pos f first (backTo pos (starEach (e :: es) X.env)) (backToKw pos (keywordEach [] X.env))) := by rfl) :
    PE X (.Call (.Attribute o m apos) (e :: es) [] pos) (tCM C sp (WE W) ta t) := by
  obtain ⟨p, g, fd, c, hb, F⟩ := M.fn
  refine ⟨fun pins s σ H Q I h => ?_⟩
  refine PySem.W.methodCall_KW (pl := pl) (thn (he.run pins s σ H _ I h) fun u s1 ⟨x, H1, I1, rx, ex, q⟩ => ?_) ht
  subst ex
  obtain rfl : u = Value.ref C := rx
  refine ClX.getmethcm_ok I1 M.rd c fun s2 I2 => ?_
  refine ClX.callwith_cm I2 (ClX.base_none I1 (Nat.le_refl _)) c.fi (thn (ha.run pos _ s2 σ H1 _ I2 q) fun us s3 ⟨vs, H2, I3, rv, q2⟩ => ⟨⟨ClX.pin_at I3, I3.kIn⟩, ?_⟩) hst hpl
  exact run_cmS F hr hb tk I3 rv q2
theorem g_cm {E : L2.St → XK} {σ : L2.St} {H : Hp} {Q : VK} (h : ta σ H fun x H1 => x = .ref C ∧ t σ H1 fun vs H2 => sp (.ref C :: vs) H2 Q (E σ)) : tCM C sp E ta t σ H Q := h
end
/-! ### the facts of classmethods; a hook that knows the interpreter's statics -/
inductive Fy where
  | crd (x : Str) | cm (x m : Str)
def Fy.ok (K : PySem.W.Frag) : Fy → Bool
  | .crd x => PySem.W.readsIn K (He.ga K x) (.type "type")
  | .cm x m => He5.wrapB K (He.ga K x) "classmethod" "classmethod.__get__" m && PySem.W.fnIn K (He5.wf K (He.ga K x) "classmethod" m)
def fyB (l : List Fy) (K : PySem.W.Frag) : Bool := l.all fun f => f.ok K
theorem fyB_at {l : List Fy} {K : PySem.W.Frag} (h : fyB l K = true) (i : Nat) {f : Fy} (e : l[i]? = some f := by rfl) : f.ok K = true := List.all_eq_true.mp h f (List.mem_of_getElem? e)
theorem cread_of {K : PySem.W.Frag} {C : Addr} (h0 : PySem.W.readsIn K C (.type "type") = true) : ClX.CRead K C (.type "type") := by
  refine ⟨h0, ?_⟩
  have h := h0
  unfold PySem.W.readsIn at h
  simp only [Bool.and_eq_true] at h
  unfold PySem.W.specialIn
  rw [beq_iff_eq.mp h.1.1.1.2, Option.bind_some]
  exact beq_iff_eq.mp h.1.1.2
theorem fy_crd {K : PySem.W.Frag} {l : List Fy} (c : fyB l K = true) (i : Nat) {x : Str} (e : l[i]? = some (.crd x) := by rfl) : ClX.CRead K (He.ga K x) (.type "type") := cread_of (fyB_at c i e)
theorem fy_cm {K : PySem.W.Frag} {l : List Fy} (c : fyB l K = true) (i : Nat) {x m : Str} (e : l[i]? = some (.cm x m) := by rfl) : ClX.CMet K (He.ga K x) (.type "type") m (He.ma K (He.ga K x) m) (He5.wf K (He.ga K x) "classmethod" m) := by
  have q : (He5.wrapB K (He.ga K x) "classmethod" "classmethod.__get__" m && PySem.W.fnIn K (He5.wf K (He.ga K x) "classmethod" m)) = true := fyB_at c i e
  rw [Bool.and_eq_true] at q
  exact He5.cmet_of q.1 q.2
def asN (g : Addr → Option Obj) (n : Nat) : List Addr := He.asD g n ++ [cStatics]
def obsN0 (fn : List He5.DefA) (ex : PySem.W.Frag → Bool) (K : PySem.W.Frag) : He.AlD := (ex K && fn.all fun d => d.ok K, fn.map fun d => He5.fnA K (d.at_ K))
def obsN (n : Nat) (fn : List He5.DefA) (ex : PySem.W.Frag → Bool) (g : Addr → Option Obj) : He.AlD := obsN0 fn ex (He.frT g (asN g n))
def SaysN (fn : List He5.DefA) (ex : PySem.W.Frag → Bool) (K : PySem.W.Frag) : Prop := obsN0 fn ex K = He5.valA fn
def hookN (n : Nat) (fn : List He5.DefA) (ex : PySem.W.Frag → Bool) : PySem.W.Hook where
  α := He.AlD
  obs := fun s => obsN n fn ex s.heap.get?
  val := fun _ => He5.valA fn
  says := fun _ h => ∃ K : PySem.W.Frag, K.In h ∧ SaysN fn ex K
  of := fun _ _ e => ⟨_, He.frT_in, e⟩
  keeps := fun _ _ _ ⟨K, hK, c⟩ k => ⟨K, PySem.W.Frag.In.keeps hK k, c⟩
theorem obsN_eq {n : Nat} {fn : List He5.DefA} {ex : PySem.W.Frag → Bool} {g : Addr → Option Obj} {s : Shared} (h : ∀ a, g a = s.heap.get? a) : obsN n fn ex g = (hookN n fn ex).obs s := by
  have e : g = s.heap.get? := funext h
  rw [e] <;> rfl
theorem SaysN.more {fn : List He5.DefA} {ex : PySem.W.Frag → Bool} {K : PySem.W.Frag} (c : SaysN fn ex K) : ex K = true := by
  have q : (ex K && fn.all fun d => d.ok K) = true := congrArg (fun z : He.AlD => z.1) c
  rw [Bool.and_eq_true] at q
  exact q.1
theorem SaysN.def_ {fn : List He5.DefA} {ex : PySem.W.Frag → Bool} {K : PySem.W.Frag} (c : SaysN fn ex K) (i : Nat) {d : He5.DefA} (h : fn[i]? = some d := by rfl) : ∃ fd, L2.FunD K d.name d.qual d.params d.body d.scope (d.dvs K) (d.kws K) (d.at_ K) fd := by
  have q : (ex K && fn.all fun d => d.ok K) = true := congrArg (fun z : He.AlD => z.1) c
  rw [Bool.and_eq_true] at q
  have e : fn.map (fun d => He5.fnA K (d.at_ K)) = fn.map He5.DefA.val := congrArg (fun z : He.AlD => z.2) c
  have e2 : (fn.map fun d => He5.fnA K (d.at_ K))[i]? = (fn.map He5.DefA.val)[i]? := by rw [e]
  rw [List.getElem?_map, List.getElem?_map, h] at e2
  exact He5.DefA.funD (Option.some.inj e2) (List.all_eq_true.mp q.2 d (List.mem_of_getElem? h))
/-! ### list(text), tuple(x), dict(d), a, b, c = x, y, z -/
def sgn (x : Str) : List Str := x.cps.toList.map fun c => (⟨#[c]⟩ : Str)
def dListS : List V → Hp → VK → Prop := fun xs H Q => ∃ x : Str, xs = [.str x] ∧ x.length ≤ sizeLine ∧ ∀ l, H l = none → Q (.ref l) (upd H l (.lst ((sgn x).map V.str)))
theorem vals_sgn {x : Str} {acc : Array Value} (h : ItemsOf (SignAt x) acc x.cps.size) : Vals ((sgn x).map V.str) acc.toList := by
  have key : ∀ (cs : List Nat) (l : List Value), cs.length = l.length → (∀ (i : Nat) (v : Value), l[i]? = some v → ∃ c u, cs[i]? = some c ∧ v = Value.str ⟨#[c]⟩ u) → Vals ((cs.map fun c => (⟨#[c]⟩ : Str)).map V.str) l := by
    intro cs
    induction cs with
    | nil =>
      intro l hl _
      cases l with
      | nil => exact .nil
      | cons _ _ => simp at hl
    | cons c r ih =>
      intro l hl hv
      cases l with
      | nil => simp at hl
      | cons v l =>
        obtain ⟨c', u, e1, e2⟩ := hv 0 v rfl
        simp at e1
        subst e1
        subst e2
        exact .cons ⟨u, rfl⟩ (ih l (by simpa using hl) fun i w hw => hv (i + 1) w (by simpa using hw))
  refine key x.cps.toList acc.toList (by simp [h.1]) fun i v hv => ?_
  obtain ⟨c, u, e1, e2⟩ := h.2 i v (by simpa using hv)
  exact ⟨c, u, by simpa using e1, e2⟩
theorem cl_listS {X : Cx} (hc : X.calm = true := by rfl) : CallR X (.type "list") dListS := by
  intro pins s σ H xs us Q I r h
  obtain ⟨x, rfl, hx, q⟩ := h
  obtain ⟨u, rfl, ru⟩ := vals1 r
  obtain ⟨t, rfl⟩ := (show ∃ t, u = Value.str x t from ru)
  refine call_list_str (I.ok.hd hc) x t (fun h' tk acc c hk hS hacc => ?_) (hn := hx)
  exact ⟨.ref s.heap.objs.size, upd H s.heap.objs.size (.lst ((sgn x).map V.str)), I.laid (t' := tk) hk (Nat.le_refl _) ⟨by rw [List.length_map]; unfold sgn; rw [List.length_map, Array.length_toList]; exact hx, acc.toList, c, vals_sgn hacc, by simpa using hS⟩, rfl, q _ (I.hok.fresh (Nat.le_refl _))⟩
theorem g_listS {x : Str} {H : Hp} {Q : VK} (z : x.length ≤ sizeLine) (h : ∀ l, H l = none → Q (.ref l) (upd H l (.lst ((sgn x).map V.str)))) : dListS [.str x] H Q := ⟨x, rfl, z, h⟩
def dTuple (K : PySem.W.Frag) : List V → Hp → VK → Prop := fun xs H Q => ∃ p ys, xs = [.ref p] ∧ ((SqL K H p ys ∧ ∀ l, H l = none → Q (.ref l) (upd H l (.tup ys))) ∨ (SqT K H p ys ∧ Q (.ref p) H))
theorem cl_tuple {X : Cx} (K : PySem.W.Frag) (h : X.K = K := by rfl) : CallR X (.type "tuple") (dTuple K) := h ▸ call_tuple_of
theorem g_tupleL {K : PySem.W.Frag} {p : Addr} {ys : List V} {H : Hp} {Q : VK} (z : H p = some (.lst ys)) (h : ∀ l, H l = none → Q (.ref l) (upd H l (.tup ys))) : dTuple K [.ref p] H Q := ⟨p, ys, rfl, .inl ⟨SqL.of z, h⟩⟩
def dDict : List V → Hp → VK → Prop := fun xs H Q => ∃ (a : Addr) (kvs : List (Key × V)), xs = [.ref a] ∧ Rd H a (.dK kvs) ∧ ∀ p, H p = none → Q (.ref p) (upd H p (.dK kvs))
theorem cl_dict {X : Cx} : CallR X (.type "dict") dDict := call_dictD
theorem g_dictD {a : Addr} {kvs : List (Key × V)} {H : Hp} {Q : VK} (z : H a = some (.dK kvs)) (h : ∀ p, H p = none → Q (.ref p) (upd H p (.dK kvs))) : dDict [.ref a] H Q := ⟨a, kvs, rfl, .inl z, h⟩
theorem g_par3 {i j l : Nat} {ta : TA} {nx : L2.St → Hp → Prop} {rt : VK} {bk ct : L2.St → Hp → Prop} {σ : L2.St} {H : Hp} (h : ta σ H fun vs H1 => ∃ u v w, vs = [u, v, w] ∧ gName i u σ H1 fun σ1 H2 => gName j v σ1 H2 fun σ2 H3 => gName l w σ2 H3 nx) : tPar3 i j l ta ⟨nx, rt, bk, ct⟩ σ H := h
theorem g_par33 {u v w : V} {Z : V → V → V → Prop} (h : Z u v w) : ∃ a b c, [u, v, w] = [a, b, c] ∧ Z a b c := ⟨u, v, w, rfl, h⟩
theorem g_star {K : PySem.W.Frag} {te : TE} {t : TA} {σ : L2.St} {H : Hp} {QA : List V → Hp → Prop} (h : te σ H fun x H1 => ∃ p xs, x = V.ref p ∧ (SqT K H1 p xs ∨ SqL K H1 p xs) ∧ t σ H1 fun ys H2 => QA (xs ++ ys) H2) : StX.tStar K te t σ H QA := h
theorem g_starred {K : PySem.W.Frag} {H : Hp} {p : Addr} {xs : List V} {Z : List V → Prop} (z : H p = some (.lst xs)) (h : Z xs) : ∃ q ys, V.ref p = V.ref q ∧ (SqT K H q ys ∨ SqL K H q ys) ∧ Z ys := ⟨p, xs, rfl, .inr (SqL.of z), h⟩
theorem tru_d {K : PySem.W.Frag} {p : Addr} {kvs : List (Key × V)} {H : Hp} {Z : Bool → Prop} (z : H p = some (.dK kvs)) (h : Z (!kvs.isEmpty)) : ∃ k, TruV K (.ref p) H k ∧ Z k := ⟨_, .inr (.inr ⟨kvs, z, rfl⟩), h⟩
/-- pa_star with the written part by its letter -/
theorem q_star {X : Cx} (K : PySem.W.Frag) {e : Expr} {es : List Expr} {te : TE} {t : TA} {p : Pos} (he : PE X e te) (ht : PA X es t) (h : X.K = K := by rfl) : PA X (.Starred e p :: es) (StX.tStar K te t) := by subst h; exact StX.pa_star he ht
end NL
namespace NQ
open PySem L2
/-! ### trees: what a value stands for, without addresses -/
inductive T where
  | non | bl (b : Bool) | int (i : Int) | str (s : Str)
  | lst (ts : List T) | tup (ts : List T) | ctup (ts : List T) | clst (ts : List T)
  | dic (ks : List Key) (ts : List T) | dit (ks : List (List Key)) (ts : List T)
  | ins (c : Str) (fs : List Str) (ts : List T)
  | gl (x : Str) | ty (n : String)
def T.kids : T → List T
  | .lst ts => ts | .tup ts => ts
  | .dic _ ts => ts | .dit _ ts => ts | .ins _ _ ts => ts
  | _ => []
def T.sv : T → V
  | .bl b => .bl b | .int i => .int i | .str s => .str s | .ty n => .ty n
  | _ => .non
/-- a flat scalar -/
def T.isS : T → Bool
  | .non => true | .bl _ => true | .int _ => true | .str s => PyData.strOk s | _ => false
def Cell (K : PySem.W.Frag) (H : Hp) (a : Addr) (t : T) (vs : List V) : Prop := match t with
  | .lst _ => H a = some (.lst vs)
  | .tup _ => H a = some (.tup vs)
  | .dic ks _ => ks.length = vs.length ∧ H a = some (.dK (ks.zip vs))
  | .dit ks _ => ks.length = vs.length ∧ H a = some (.dT (ks.zip vs))
  | .ins c fs _ => fs.length = vs.length ∧ ∃ dx, H a = some (.ins (He.ga K c) dx (fs.zip vs))
  | _ => False
def CellR (K : PySem.W.Frag) (H : Hp) (a : Addr) (t : T) (vs : List V) : Prop := match t with
  | .lst _ => Rd H a (.lst vs)
  | .tup _ => H a = some (.tup vs)
  | .dic ks _ => ks.length = vs.length ∧ H a = some (.dK (ks.zip vs))
  | .dit ks _ => ks.length = vs.length ∧ H a = some (.dT (ks.zip vs))
  | .ins c fs _ => fs.length = vs.length ∧ ∃ dx, H a = some (.ins (He.ga K c) dx (fs.zip vs))
  | _ => False
def Sc (K : PySem.W.Frag) (v : V) (t : T) : Prop := match t with
  | .non => v = .non
  | .bl b => v = .bl b
  | .int i => v = .int i
  | .str s => v = .str s ∧ PyData.strOk s = true
  | .gl x => v = .ref (He.ga K x)
  | .ty n => v = .ty n
  | .ctup ts => ∃ a, v = .ref a ∧ (∀ H : Hp, SqT K H a (ts.map T.sv)) ∧ ts.all T.isS = true
  | .clst ts => ∃ a, v = .ref a ∧ (∀ H : Hp, SqL K H a (ts.map T.sv)) ∧ ts.all T.isS = true
  | _ => False
/-! ### edges by predicates -/
def EdP (U : Addr → Prop) (H H' : Hp) : Prop := (∀ a o, ¬ U a → H a = some o → H' a = some o) ∧ ∀ a, H a ≠ none → H' a ≠ none
abbrev noA : Addr → Prop := fun _ => False
def Xt (U U' : Addr → Prop) (H H' : Hp) : Prop := EdP U H H' ∧ ∀ a, U' a → U a ∨ H a = none
section
variable {U U' V' : Addr → Prop} {H H' H0 H1 H2 : Hp} {a p : Addr} {o : HO}
theorem EdP.refl : EdP U H H := ⟨fun _ _ _ e => e, fun _ h => h⟩
theorem EdP.free (e : EdP U H H') (h : H' a = none) : H a = none := by
  by_cases z : H a = none
  · exact z
  · exact absurd h (e.2 a z)
theorem EdP.tr (h1 : EdP U H0 H1) (h2 : EdP U' H1 H2) (hv : ∀ a, U' a → U a ∨ H0 a = none) : EdP U H0 H2 :=
  ⟨fun a o n e => h2.1 a o (fun z => (hv a z).elim n (fun q => by rw [q] at e; cases e)) (h1.1 a o n e), fun a h => h2.2 a (h1.2 a h)⟩
theorem EdP.weak (h : EdP U H H') (hv : ∀ a, U a → U' a) : EdP U' H H' := ⟨fun a o n e => h.1 a o (fun z => n (hv a z)) e, h.2⟩
theorem EdP.new (hp : H p = none) : EdP noA H (upd H p o) := ⟨fun a u _ e => by rw [upd_ne (ne_of_none e hp)]; exact e, fun a h => by
  rw [upd_ne (fun z : a = p => h (by rw [z]; exact hp))]; exact h⟩
theorem EdP.put : EdP (fun a => a = p) H (upd H p o) := ⟨fun a u n e => by rw [upd_ne n]; exact e, fun a h => by
  by_cases z : a = p
  · rw [z, upd_same]; exact fun z => nomatch z
  · rw [upd_ne z]; exact h⟩
theorem EdP.ed {L : List Addr} (h : NL.Ed L H H') : EdP (fun a => a ∈ L) H H' := ⟨fun a o n e => h.1 a o n e, h.2⟩
theorem Xt.refl : Xt U U H H := ⟨.refl, fun _ h => .inl h⟩
theorem Xt.tr (h1 : Xt U U' H0 H1) (h2 : Xt U' V' H1 H2) : Xt U V' H0 H2 :=
  ⟨h1.1.tr h2.1 h1.2, fun a z => (h2.2 a z).elim (fun q => h1.2 a q) fun q => .inr (h1.1.free q)⟩
theorem Xt.ed0 (h1 : Xt U U' H0 H1) (h2 : EdP noA H1 H2) : Xt U U' H0 H2 := ⟨h1.1.tr h2 fun _ z => z.elim, h1.2⟩
theorem EdP.xt0 (h2 : EdP noA H1 H2) : Xt U U H1 H2 := ⟨h2.weak fun _ z => z.elim, fun _ z => .inl z⟩
end
/-! ### frozen data: nothing of it lies in G -/
mutual
inductive Df (K : PySem.W.Frag) (G : Addr → Prop) (H : Hp) : V → T → Prop
  | sc {v : V} {t : T} : Sc K v t → Df K G H v t
  | nd {a : Addr} {t : T} {vs : List V} : ¬ G a → CellR K H a t vs → DfL K G H vs t.kids → Df K G H (.ref a) t
inductive DfL (K : PySem.W.Frag) (G : Addr → Prop) (H : Hp) : List V → List T → Prop
  | nil : DfL K G H [] []
  | cons {v : V} {t : T} {vs : List V} {ts : List T} : Df K G H v t → DfL K G H vs ts → DfL K G H (v :: vs) (t :: ts)
end
theorem CellR.alive {K : PySem.W.Frag} {H : Hp} {a : Addr} {t : T} {vs : List V} (h : CellR K H a t vs) : H a ≠ none := by
  unfold CellR at h
  split at h
  · rcases h with h | ⟨_, h⟩ <;> rw [h] <;> exact fun z => nomatch z
  · rw [h]; exact fun z => nomatch z
  · rw [h.2]; exact fun z => nomatch z
  · rw [h.2]; exact fun z => nomatch z
  · obtain ⟨_, _, h⟩ := h; rw [h]; exact fun z => nomatch z
  · exact h.elim
theorem Cell.r {K : PySem.W.Frag} {H : Hp} {a : Addr} {t : T} {vs : List V} (h : Cell K H a t vs) : CellR K H a t vs := by
  cases t <;> first
    | exact Or.inl h
    | exact h
theorem CellR.keep {K : PySem.W.Frag} {H H' : Hp} {a : Addr} {t : T} {vs : List V} (k : ∀ o, H a = some o → H' a = some o) (h : CellR K H a t vs) : CellR K H' a t vs := by
  unfold CellR at h ⊢
  split at h
  · rcases h with h | ⟨o, h⟩
    · exact .inl (k _ h)
    · exact .inr ⟨o, k _ h⟩
  · exact k _ h
  · exact ⟨h.1, k _ h.2⟩
  · exact ⟨h.1, k _ h.2⟩
  · obtain ⟨h0, dx, h⟩ := h; exact ⟨h0, dx, k _ h⟩
  · exact h.elim
theorem Cell.keep {K : PySem.W.Frag} {H H' : Hp} {a : Addr} {t : T} {vs : List V} (k : ∀ o, H a = some o → H' a = some o) (h : Cell K H a t vs) : Cell K H' a t vs := by
  unfold Cell at h ⊢
  split at h
  · exact k _ h
  · exact k _ h
  · exact ⟨h.1, k _ h.2⟩
  · exact ⟨h.1, k _ h.2⟩
  · obtain ⟨h0, dx, h⟩ := h; exact ⟨h0, dx, k _ h⟩
  · exact h.elim
section
variable {K : PySem.W.Frag} {G G' U : Addr → Prop} {H H' : Hp}
mutual
theorem Df.step (e : EdP U H H') (hu : ∀ a, U a → G a ∨ H a = none) (hg : ∀ a, G' a → G a ∨ H a = none) : ∀ {v : V} {t : T}, Df K G H v t → Df K G' H' v t
  | _, _, .sc h => .sc h
  | _, _, .nd n c r => .nd (fun z => (hg _ z).elim n fun q => c.alive q) (c.keep fun o q => e.1 _ _ (fun z => (hu _ z).elim n fun w => c.alive w) q) (DfL.step e hu hg r)
theorem DfL.step (e : EdP U H H') (hu : ∀ a, U a → G a ∨ H a = none) (hg : ∀ a, G' a → G a ∨ H a = none) : ∀ {vs : List V} {ts : List T}, DfL K G H vs ts → DfL K G' H' vs ts
  | _, _, .nil => .nil
  | _, _, .cons h r => .cons (Df.step e hu hg h) (DfL.step e hu hg r)
end
theorem Df.weak {v : V} {t : T} (hg : ∀ a, G' a → G a) (h : Df K G H v t) : Df K G' H v t := h.step (U := noA) .refl (fun _ z => z.elim) fun a z => .inl (hg a z)
theorem DfL.weak {v : List V} {t : List T} (hg : ∀ a, G' a → G a) (h : DfL K G H v t) : DfL K G' H v t := h.step (U := noA) .refl (fun _ z => z.elim) fun a z => .inl (hg a z)
theorem Df.ed0 {v : V} {t : T} (e : EdP noA H H') (h : Df K G H v t) : Df K G H' v t := h.step e (fun _ z => z.elim) fun a z => .inl z
theorem DfL.ed0 {v : List V} {t : List T} (e : EdP noA H H') (h : DfL K G H v t) : DfL K G H' v t := h.step e (fun _ z => z.elim) fun a z => .inl z
theorem DfL.length : ∀ {vs : List V} {ts : List T}, DfL K G H vs ts → vs.length = ts.length
  | _, _, .nil => rfl
  | _, _, .cons _ r => by rw [List.length_cons, List.length_cons, DfL.length r]
theorem DfL.at : ∀ {vs : List V} {ts : List T} {i : Nat} {t : T}, DfL K G H vs ts → ts[i]? = some t → ∃ v, vs[i]? = some v ∧ Df K G H v t
  | _, _, _, _, .nil, e => by simp at e
  | _, _, 0, _, .cons h _, e => by simp at e; subst e; exact ⟨_, rfl, h⟩
  | _, _, i + 1, _, .cons _ r, e => by
    obtain ⟨v, h1, h2⟩ := DfL.at r (i := i) (by simpa using e)
    exact ⟨v, by simpa using h1, h2⟩
theorem DfL.at' : ∀ {vs : List V} {ts : List T} {i : Nat} {v : V}, DfL K G H vs ts → vs[i]? = some v → ∃ t, ts[i]? = some t ∧ Df K G H v t
  | _, _, _, _, .nil, e => by simp at e
  | _, _, 0, _, .cons h _, e => by simp at e; subst e; exact ⟨_, rfl, h⟩
  | _, _, i + 1, _, .cons _ r, e => by
    obtain ⟨v, h1, h2⟩ := DfL.at' r (i := i) (by simpa using e)
    exact ⟨v, by simpa using h1, h2⟩
theorem DfL.app : ∀ {vs ws : List V} {ts us : List T}, DfL K G H vs ts → DfL K G H ws us → DfL K G H (vs ++ ws) (ts ++ us)
  | _, _, _, _, .nil, h => h
  | _, _, _, _, .cons h r, q => .cons h (DfL.app r q)
theorem DfL.drop : ∀ {vs : List V} {ts : List T} (n : Nat), DfL K G H vs ts → DfL K G H (vs.drop n) (ts.drop n)
  | _, _, 0, h => h
  | _, _, _ + 1, .nil => .nil
  | _, _, n + 1, .cons _ r => DfL.drop n r
theorem DfL.take : ∀ {vs : List V} {ts : List T} (n : Nat), DfL K G H vs ts → DfL K G H (vs.take n) (ts.take n)
  | _, _, 0, _ => .nil
  | _, _, _ + 1, .nil => .nil
  | _, _, n + 1, .cons h r => .cons h (DfL.take n r)
theorem DfL.set {v : V} {t : T} (h : Df K G H v t) : ∀ {vs : List V} {ts : List T} (n : Nat), DfL K G H vs ts → DfL K G H (vs.set n v) (ts.set n t)
  | _, _, _, .nil => .nil
  | _, _, 0, .cons _ r => .cons h r
  | _, _, n + 1, .cons q r => .cons q (DfL.set h n r)
theorem DfL.sv : ∀ {ts : List T}, ts.all T.isS = true → DfL K G H (ts.map T.sv) ts
  | [], _ => .nil
  | t :: r, h => by
    rw [List.all_cons, Bool.and_eq_true] at h
    refine .cons (.sc ?_) (DfL.sv h.2)
    cases t <;> first
      | rfl
      | exact ⟨rfl, h.1⟩
      | exact absurd h.1 Bool.false_ne_true
theorem DfL.svs : ∀ {ts : List T} {vs : List V}, DfL K G H vs ts → ts.all T.isS = true → vs = ts.map T.sv
  | [], _, .nil, _ => rfl
  | t :: r, _, .cons h q, z => by
    rw [List.all_cons, Bool.and_eq_true] at z
    rw [DfL.svs q z.2]
    cases h with
    | sc h =>
      cases t <;> first
        | (cases h; rfl)
        | (obtain ⟨rfl, _⟩ := h; rfl)
        | exact absurd z.1 Bool.false_ne_true
    | nd n c _ =>
      cases t <;> first
        | exact absurd z.1 Bool.false_ne_true
        | exact c.elim
end
/-! ### owned trees: all their own places are told, no two alike -/
inductive Sh where
  | fz | all (s : Sh) | flds (d : List (Str × Sh)) | row (ss : List Sh) | opt (s : Sh)
  /-- lent: it is read only, and lies apart from what is one's own -/
  | vw
  /-- a caught exception at a, its field f in d -/
  | xc (a d : Addr) (c f : Str)
def Sh.pln : Sh → Bool
  | .vw => false
  | .xc .. => false
  | _ => true
def Sh.nxc : Sh → Bool
  | .xc .. => false
  | _ => true
def Sh.kids (s : Sh) (t : T) : Option (List Sh) := match s, t with
  | .all s, .lst ts => some (ts.map fun _ => s)
  | .all s, .dic _ ts => some (ts.map fun _ => s)
  | .all s, .dit _ ts => some (ts.map fun _ => s)
  | .flds d, .ins _ fs _ => some (fs.map fun f => (d.lookup f).getD .fz)
  | .row ss, .lst _ => some ss
  | _, _ => none
mutual
inductive Ow (K : PySem.W.Frag) (G : Addr → Prop) (H : Hp) : Sh → List Addr → V → T → Prop
  | fz {v : V} {t : T} : Df K G H v t → Ow K G H .fz [] v t
  | nd {s : Sh} {a : Addr} {F : List Addr} {t : T} {vs : List V} {ss : List Sh} : Cell K H a t vs → s.kids t = some ss → OwL K G H ss F vs t.kids → Ow K G H s (a :: F) (.ref a) t
  | optN {s : Sh} : Ow K G H (.opt s) [] .non .non
  | optS {s : Sh} {F : List Addr} {v : V} {t : T} : Ow K G H s F v t → Ow K G H (.opt s) F v t
inductive OwL (K : PySem.W.Frag) (G : Addr → Prop) (H : Hp) : List Sh → List Addr → List V → List T → Prop
  | nil : OwL K G H [] [] [] []
  | cons {s : Sh} {ss : List Sh} {F F' : List Addr} {v : V} {t : T} {vs : List V} {ts : List T} : Ow K G H s F v t → OwL K G H ss F' vs ts → OwL K G H (s :: ss) (F ++ F') (v :: vs) (t :: ts)
end
section
variable {K : PySem.W.Frag} {G G' U : Addr → Prop} {H H' : Hp}
mutual
theorem Ow.step (e : EdP U H H') (hu : ∀ a, U a → G a ∨ H a = none) (hg : ∀ a, G' a → G a ∨ H a = none) : ∀ {s : Sh} {F : List Addr} {v : V} {t : T}, (∀ a ∈ F, ¬ U a) → Ow K G H s F v t → Ow K G' H' s F v t
  | _, _, _, _, _, .fz h => .fz (h.step e hu hg)
  | _, _, _, _, n, .nd c k r => .nd (c.keep fun o q => e.1 _ _ (n _ (List.mem_cons_self ..)) q) k (OwL.step e hu hg (fun a z => n a (List.mem_cons_of_mem _ z)) r)
  | _, _, _, _, _, .optN => .optN
  | _, _, _, _, n, .optS h => .optS (Ow.step e hu hg n h)
theorem OwL.step (e : EdP U H H') (hu : ∀ a, U a → G a ∨ H a = none) (hg : ∀ a, G' a → G a ∨ H a = none) : ∀ {ss : List Sh} {F : List Addr} {vs : List V} {ts : List T}, (∀ a ∈ F, ¬ U a) → OwL K G H ss F vs ts → OwL K G' H' ss F vs ts
  | _, _, _, _, _, .nil => .nil
  | _, _, _, _, n, .cons h r => .cons (Ow.step e hu hg (fun a z => n a (List.mem_append_left _ z)) h) (OwL.step e hu hg (fun a z => n a (List.mem_append_right _ z)) r)
end
mutual
theorem Ow.alive : ∀ {s : Sh} {F : List Addr} {v : V} {t : T}, Ow K G H s F v t → ∀ a ∈ F, H a ≠ none
  | _, _, _, _, .fz _, _, z => absurd z List.not_mem_nil
  | _, _, _, _, .nd c _ r, b, z => (List.mem_cons.mp z).elim (fun q => by rw [q]; exact c.r.alive) fun q => OwL.alive r b q
  | _, _, _, _, .optN, _, z => absurd z List.not_mem_nil
  | _, _, _, _, .optS h, a, z => Ow.alive h a z
theorem OwL.alive : ∀ {ss : List Sh} {F : List Addr} {vs : List V} {ts : List T}, OwL K G H ss F vs ts → ∀ a ∈ F, H a ≠ none
  | _, _, _, _, .nil, _, z => absurd z List.not_mem_nil
  | _, _, _, _, .cons h r, a, z => (List.mem_append.mp z).elim (fun q => Ow.alive h a q) fun q => OwL.alive r a q
end
mutual
theorem Ow.freeze : ∀ {s : Sh} {F : List Addr} {v : V} {t : T}, (∀ a, G' a → G a ∧ a ∉ F) → Ow K G H s F v t → Df K G' H v t
  | _, _, _, _, n, .fz h => h.weak fun a z => (n a z).1
  | _, _, _, _, n, .nd c _ r => .nd (fun z => (n _ z).2 (List.mem_cons_self ..)) c.r (OwL.freeze (fun a z => ⟨(n a z).1, fun q => (n a z).2 (List.mem_cons_of_mem _ q)⟩) r)
  | _, _, _, _, _, .optN => .sc rfl
  | _, _, _, _, n, .optS h => Ow.freeze n h
theorem OwL.freeze : ∀ {ss : List Sh} {F : List Addr} {vs : List V} {ts : List T}, (∀ a, G' a → G a ∧ a ∉ F) → OwL K G H ss F vs ts → DfL K G' H vs ts
  | _, _, _, _, _, .nil => .nil
  | _, _, _, _, n, .cons h r => .cons (Ow.freeze (fun a z => ⟨(n a z).1, fun q => (n a z).2 (List.mem_append_left _ q)⟩) h) (OwL.freeze (fun a z => ⟨(n a z).1, fun q => (n a z).2 (List.mem_append_right _ q)⟩) r)
end
theorem Ow.weak {s : Sh} {F : List Addr} {v : V} {t : T} (hg : ∀ a, G' a → G a) (h : Ow K G H s F v t) : Ow K G' H s F v t := h.step (U := noA) .refl (fun _ z => z.elim) (fun a z => .inl (hg a z)) fun _ _ z => z.elim
theorem Ow.ed0 {s : Sh} {F : List Addr} {v : V} {t : T} (e : EdP noA H H') (h : Ow K G H s F v t) : Ow K G H' s F v t := h.step e (fun _ z => z.elim) (fun a z => .inl z) fun _ _ z => z.elim
theorem Ow.df {F : List Addr} {v : V} {t : T} (h : Ow K G H .fz F v t) : Df K G H v t ∧ F = [] := by
  cases h with
  | fz h => exact ⟨h, rfl⟩
  | nd c k r => simp [Sh.kids] at k
theorem DfL.ow {ts : List T} : ∀ {vs : List V}, DfL K G H vs ts → OwL K G H (ts.map fun _ => .fz) [] vs ts := by
  induction ts with
  | nil => intro vs h; cases h; exact .nil
  | cons t r ih =>
    intro vs h
    cases h with
    | cons h q => exact OwL.cons (F := []) (F' := []) (.fz h) (ih q)
theorem OwL.df : ∀ {ts : List T} {vs : List V} {F : List Addr}, OwL K G H (ts.map fun _ => .fz) F vs ts → DfL K G H vs ts ∧ F = []
  | [], _, _, .nil => ⟨.nil, rfl⟩
  | t :: r, _, _, .cons h q => by
    obtain ⟨h1, rfl⟩ := h.df
    obtain ⟨h2, rfl⟩ := OwL.df q
    exact ⟨.cons h1 h2, rfl⟩
end
/-! ### what a value stands for, wherever it lies -/
mutual
inductive Rp (K : PySem.W.Frag) (H : Hp) : V → T → Prop
  | sc {v : V} {t : T} : Sc K v t → Rp K H v t
  | nd {a : Addr} {t : T} {vs : List V} : CellR K H a t vs → RpL K H vs t.kids → Rp K H (.ref a) t
inductive RpL (K : PySem.W.Frag) (H : Hp) : List V → List T → Prop
  | nil : RpL K H [] []
  | cons {v : V} {t : T} {vs : List V} {ts : List T} : Rp K H v t → RpL K H vs ts → RpL K H (v :: vs) (t :: ts)
end
section
variable {K : PySem.W.Frag} {G : Addr → Prop} {H H' : Hp}
mutual
theorem Df.rp : ∀ {v : V} {t : T}, Df K G H v t → Rp K H v t
  | _, _, .sc h => .sc h
  | _, _, .nd _ c r => .nd c (DfL.rp r)
theorem DfL.rp : ∀ {vs : List V} {ts : List T}, DfL K G H vs ts → RpL K H vs ts
  | _, _, .nil => .nil
  | _, _, .cons h r => .cons (Df.rp h) (DfL.rp r)
end
mutual
theorem Ow.rp : ∀ {s : Sh} {F : List Addr} {v : V} {t : T}, Ow K G H s F v t → Rp K H v t
  | _, _, _, _, .fz h => h.rp
  | _, _, _, _, .nd c _ r => .nd c.r (OwL.rp r)
  | _, _, _, _, .optN => .sc rfl
  | _, _, _, _, .optS h => Ow.rp h
theorem OwL.rp : ∀ {ss : List Sh} {F : List Addr} {vs : List V} {ts : List T}, OwL K G H ss F vs ts → RpL K H vs ts
  | _, _, _, _, .nil => .nil
  | _, _, _, _, .cons h r => .cons (Ow.rp h) (OwL.rp r)
end
theorem RpL.length : ∀ {vs : List V} {ts : List T}, RpL K H vs ts → vs.length = ts.length
  | _, _, .nil => rfl
  | _, _, .cons _ r => by rw [List.length_cons, List.length_cons, RpL.length r]
theorem Rp.isS {v : V} {t : T} (h : Rp K H v t) (z : t.isS = true) : v = t.sv := by
  cases h with
  | sc h =>
    cases t <;> first
      | (cases h; rfl)
      | (obtain ⟨rfl, _⟩ := h; rfl)
      | exact absurd z Bool.false_ne_true
  | nd c _ =>
    cases t <;> first
      | exact absurd z Bool.false_ne_true
      | exact c.elim
theorem Df.isS {v : V} {t : T} (h : Rp K H v t) (z : t.isS = true) : Df K G H v t := by
  cases h with
  | sc h => exact .sc h
  | nd c _ =>
    cases t <;> first
      | exact absurd z Bool.false_ne_true
      | exact c.elim
theorem RpL.svs : ∀ {ts : List T} {vs : List V}, RpL K H vs ts → ts.all T.isS = true → vs = ts.map T.sv
  | [], _, .nil, _ => rfl
  | t :: r, _, .cons h q, z => by
    rw [List.all_cons, Bool.and_eq_true] at z
    rw [RpL.svs q z.2, h.isS z.1]
    rfl
end
/-! ### a view: it may be read; what lies in it is frozen -/
def Vw (K : PySem.W.Frag) (G : Addr → Prop) (H : Hp) (v : V) (t : T) : Prop := Sc K v t ∨ ∃ a vs, v = .ref a ∧ CellR K H a t vs ∧ DfL K G H vs t.kids
theorem Vw.rp {K : PySem.W.Frag} {G : Addr → Prop} {H : Hp} {v : V} {t : T} (h : Vw K G H v t) : Rp K H v t := by
  rcases h with h | ⟨a, vs, rfl, c, r⟩
  · exact .sc h
  · exact .nd c r.rp
theorem Df.vw {K : PySem.W.Frag} {G : Addr → Prop} {H : Hp} {v : V} {t : T} (h : Df K G H v t) : Vw K G H v t := by
  cases h with
  | sc h => exact .inl h
  | nd n c r => exact .inr ⟨_, _, rfl, c, r⟩
/-- shapes whose parts are all frozen -/
def Sh.flat : Sh → Bool
  | .fz => true
  | .all .fz => true
  | .opt (.all .fz) => true
  | .flds d => d.all fun p => match p.2 with | .fz => true | _ => false
  | .row ss => ss.all fun s => match s with | .fz => true | _ => false
  | _ => false
theorem OwL.flat {K : PySem.W.Frag} {G : Addr → Prop} {H : Hp} : ∀ {ss : List Sh} {ts : List T} {vs : List V} {F : List Addr}, (∀ s ∈ ss, s = .fz) → OwL K G H ss F vs ts → DfL K G H vs ts
  | _, _, _, _, _, .nil => .nil
  | _, _, _, _, n, .cons h q => by
    have e := n _ (List.mem_cons_self ..)
    subst e
    exact .cons h.df.1 (OwL.flat (fun s z => n s (List.mem_cons_of_mem _ z)) q)
theorem lookup_mem {α : Type} {d : List (Str × α)} {f : Str} {s : α} (h : d.lookup f = some s) : ∃ p ∈ d, p.2 = s := by
  induction d with
  | nil => simp at h
  | cons p r ih =>
    obtain ⟨a, b⟩ := p
    rw [List.lookup_cons] at h
    split at h
    · cases h; exact ⟨_, List.mem_cons_self .., rfl⟩
    · obtain ⟨q, h1, h2⟩ := ih h
      exact ⟨q, List.mem_cons_of_mem _ h1, h2⟩
theorem Ow.vw {K : PySem.W.Frag} {G : Addr → Prop} {H : Hp} : ∀ {s : Sh} {F : List Addr} {v : V} {t : T}, s.flat = true → Ow K G H s F v t → Vw K G H v t
  | _, _, _, _, _, .fz h => h.vw
  | s, _, _, t, f, .nd c k r => by
    refine .inr ⟨_, _, rfl, c.r, r.flat fun s' hs' => ?_⟩
    unfold Sh.kids at k
    unfold Sh.flat at f
    split at k <;> cases k
    · simp only [List.mem_map] at hs'
      obtain ⟨_, _, rfl⟩ := hs'
      split at f <;> first | rfl | simp_all
    · simp only [List.mem_map] at hs'
      obtain ⟨_, _, rfl⟩ := hs'
      split at f <;> first | rfl | simp_all
    · simp only [List.mem_map] at hs'
      obtain ⟨_, _, rfl⟩ := hs'
      split at f <;> first | rfl | simp_all
    · simp only [List.mem_map] at hs'
      obtain ⟨g, _, rfl⟩ := hs'
      rename_i d _ _ _ _
      simp only [List.all_eq_true] at f
      cases q : d.lookup g with
      | none => rfl
      | some s' =>
        obtain ⟨p, h1, h2⟩ := lookup_mem q
        have := f p h1
        rw [h2] at this
        show s' = .fz
        cases s' <;> simp_all
    · simp only [List.all_eq_true] at f
      have := f s' hs'
      cases s' <;> simp_all
  | _, _, _, _, _, .optN => .inl rfl
  | .opt s, _, _, _, f, .optS h => by
    refine Ow.vw ?_ h
    unfold Sh.flat at f
    split at f <;> first | rfl | simp_all [Sh.flat]
end NQ
namespace NQ
open PySem L2
/-! ### slots as trees; outcomes -/
structure Xn where
  cls : Str
  fld : Str
  val : T
abbrev Dl := List (Option T)
abbrev Rs := Option (Except Xn T × Dl)
def dAt : Dl → Nat → Option T
  | [], _ => none
  | x :: _, 0 => x
  | _ :: r, i + 1 => dAt r i
theorem dAt_set_eq : ∀ {δ : Dl} {i : Nat} {t : Option T} {u : T}, dAt (δ.set i t) i = some u → t = some u
  | [], _, _, _, h => by cases h
  | _ :: _, 0, _, _, h => h
  | _ :: r, i + 1, _, _, h => dAt_set_eq (δ := r) h
theorem dAt_set_ne : ∀ {δ : Dl} {i j : Nat} {t : Option T}, j ≠ i → dAt (δ.set i t) j = dAt δ j
  | [], _, _, _, _ => rfl
  | _ :: _, 0, 0, _, h => absurd rfl h
  | _ :: _, 0, _ + 1, _, _ => rfl
  | _ :: _, _ + 1, 0, _, _ => rfl
  | _ :: r, i + 1, j + 1, _, h => dAt_set_ne (δ := r) fun z => h (by rw [z])
theorem dAt_lt : ∀ {δ : Dl} {i : Nat} {u : T}, dAt δ i = some u → i < δ.length
  | [], _, _, h => by cases h
  | _ :: _, 0, _, _ => Nat.succ_pos _
  | _ :: r, i + 1, _, h => Nat.succ_lt_succ (dAt_lt (δ := r) h)
theorem dAt_set_self : ∀ {δ : Dl} {i : Nat} {t : T}, i < δ.length → dAt (δ.set i (some t)) i = some t
  | [], _, _, h => absurd h (Nat.not_lt_zero _)
  | _ :: _, 0, _, _ => rfl
  | _ :: r, i + 1, _, h => dAt_set_self (δ := r) (Nat.lt_of_succ_lt_succ h)
/-- one's own; with what is held meanwhile; with what others may change -/
def Om (Fm : Nat → List Addr) : Addr → Prop := fun a => ∃ i, a ∈ Fm i
def Gm (X : List Addr) (Fm : Nat → List Addr) : Addr → Prop := fun a => a ∈ X ∨ Om Fm a
def Gw (X : List Addr) (Fm : Nat → List Addr) (W : Addr → Prop) : Addr → Prop := fun a => Gm X Fm a ∨ W a
/-- what a slot of the shape s holds: of one's own, frozen, or lent -/
def Xs (K : PySem.W.Frag) (G : Addr → Prop) (H : Hp) (s : Sh) (F : List Addr) (v : V) (t : T) : Prop := F = [] ∧ ∃ a d c f u, s = .xc a d c f ∧ v = .ref a ∧ ¬ G d ∧ H d = some (.xd [(f, u)]) ∧ Df K G H u t
def Sr (K : PySem.W.Frag) (X : List Addr) (Fm : Nat → List Addr) (W : Addr → Prop) (H : Hp) (s : Sh) (F : List Addr) (v : V) (t : T) : Prop := ((s = .vw ∧ F = [] ∧ Df K (Gm X Fm) H v t) ∨ Xs K (Gw X Fm W) H s F v t) ∨ Ow K (Gw X Fm W) H s F v t
structure Fr (K : PySem.W.Frag) (sh : Nat → Sh) (W : Addr → Prop) (X : List Addr) (Fm : Nat → List Addr) (H : Hp) (σ : L2.St) (δ : Dl) : Prop where
  rel : ∀ i t, dAt δ i = some t → ∃ v, σ[i]? = some (some v) ∧ Sr K X Fm W H (sh i) (Fm i) v t
  un : ∀ i, dAt δ i = none → Fm i = []
  nd : ∀ i, (Fm i).Nodup
  dj : ∀ i j a, i ≠ j → a ∈ Fm i → a ∉ Fm j
  dw : ∀ i a, a ∈ Fm i → ¬ W a
  wl : ∀ a, W a → H a ≠ none
  len : δ.length ≤ σ.length
  xn : X.Nodup
  xd : ∀ i a, a ∈ X → a ∉ Fm i
  xw : ∀ a ∈ X, ¬ W a
  xl : ∀ a ∈ X, H a ≠ none
section
variable {K : PySem.W.Frag} {sh : Nat → Sh} {W W' U : Addr → Prop} {X X' : List Addr} {Fm Fm' : Nat → List Addr} {H H' : Hp} {σ : L2.St} {δ : Dl} {i : Nat} {v : V} {t : T} {s : Sh} {F : List Addr}
theorem Sr.step (e : EdP U H H') (hu : ∀ a, U a → Gm X Fm a ∨ H a = none) (hg : ∀ a, Gw X' Fm' W' a → Gw X Fm W a ∨ H a = none) (hm : ∀ a, Gm X' Fm' a → Gm X Fm a ∨ H a = none) (hf : ∀ a ∈ F, ¬ U a) (h : Sr K X Fm W H s F v t) : Sr K X' Fm' W' H' s F v t := by
  rcases h with (⟨h1, h2, h3⟩ | ⟨h1, a, d, c, f, u, h2, h3, h4, h5, h6⟩) | h
  · exact .inl (.inl ⟨h1, h2, h3.step e hu hm⟩)
  · have ne : ¬ H d = none := by rw [h5]; exact fun z => nomatch z
    refine .inl (.inr ⟨h1, a, d, c, f, u, h2, h3, fun z => (hg d z).elim h4 ne, e.1 _ _ (fun z => (hu d z).elim (fun w => h4 (.inl w)) ne) h5, h6.step e (fun a z => (hu a z).imp .inl id) hg⟩)
  · exact .inr (h.step e (fun a z => (hu a z).imp .inl id) hg hf)
theorem Sr.ed0 (e : EdP noA H H') (h : Sr K X Fm W H s F v t) : Sr K X Fm W H' s F v t := h.step e (fun _ z => z.elim) (fun _ z => .inl z) (fun _ z => .inl z) fun _ _ z => z.elim
theorem Sr.weak (hg : ∀ a, Gw X' Fm' W' a → Gw X Fm W a) (hm : ∀ a, Gm X' Fm' a → Gm X Fm a) (h : Sr K X Fm W H s F v t) : Sr K X' Fm' W' H s F v t := h.step (U := noA) .refl (fun _ z => z.elim) (fun a z => .inl (hg a z)) (fun a z => .inl (hm a z)) fun _ _ z => z.elim
theorem Sr.alive (h : Sr K X Fm W H s F v t) : ∀ a ∈ F, H a ≠ none := by
  rcases h with (⟨_, h2, _⟩ | ⟨h2, _⟩) | h
  · rw [h2]; exact fun _ z => absurd z List.not_mem_nil
  · rw [h2]; exact fun _ z => absurd z List.not_mem_nil
  · exact h.alive
theorem Sr.rp (h : Sr K X Fm W H s F v t) (n : s.nxc = true) : Rp K H v t := by
  rcases h with (⟨_, _, h⟩ | ⟨_, _, _, _, _, _, h, _⟩) | h
  · exact h.rp
  · rw [h] at n; cases n
  · exact h.rp
theorem Sr.fz (h : Sr K X Fm W H .fz F v t) : Df K (Gw X Fm W) H v t ∧ F = [] := by
  rcases h with (⟨h, _⟩ | ⟨_, _, _, _, _, _, h, _⟩) | h
  · cases h
  · cases h
  · exact h.df
theorem Sr.vw (h : Sr K X Fm W H .vw F v t) : Df K (Gm X Fm) H v t ∧ F = [] := by
  rcases h with (⟨_, h1, h2⟩ | ⟨_, _, _, _, _, _, h, _⟩) | h
  · exact ⟨h2, h1⟩
  · cases h
  · cases h with
    | nd c k r => simp [Sh.kids] at k
theorem Sr.xc {a d : Addr} {c f : Str} (h : Sr K X Fm W H (.xc a d c f) F v t) : F = [] ∧ v = .ref a ∧ ∃ u, H d = some (.xd [(f, u)]) ∧ Df K (Gw X Fm W) H u t := by
  rcases h with (⟨h, _⟩ | ⟨h0, _, _, _, _, u, h, h1, _, h2, h3⟩) | h
  · cases h
  · cases h; exact ⟨h0, h1, u, h2, h3⟩
  · cases h with
    | nd c k r => simp [Sh.kids] at k
theorem Sr.own (h : Sr K X Fm W H s F v t) (n : s.pln = true) : Ow K (Gw X Fm W) H s F v t := by
  rcases h with (⟨h, _⟩ | ⟨_, _, _, _, _, _, h, _⟩) | h
  · rw [h] at n; cases n
  · rw [h] at n; cases n
  · exact h
theorem Fr.alo (f : Fr K sh W X Fm H σ δ) : ∀ a, Om Fm a → H a ≠ none := fun a ⟨i, h⟩ => by
  cases e : dAt δ i with
  | none => rw [f.un i e] at h; exact absurd h List.not_mem_nil
  | some t =>
    obtain ⟨v, _, o⟩ := f.rel i t e
    exact o.alive a h
theorem Fr.alm (f : Fr K sh W X Fm H σ δ) : ∀ a, Gm X Fm a → H a ≠ none := fun a h => h.elim (f.xl a) (f.alo a)
theorem Fr.al (f : Fr K sh W X Fm H σ δ) : ∀ a, Gw X Fm W a → H a ≠ none := fun a h => h.elim (f.alm a) (f.wl a)
theorem Fr.ed0 (f : Fr K sh W X Fm H σ δ) (e : EdP noA H H') : Fr K sh W X Fm H' σ δ :=
  ⟨fun i t h => by obtain ⟨v, h1, h2⟩ := f.rel i t h; exact ⟨v, h1, h2.ed0 e⟩, f.un, f.nd, f.dj, f.dw, fun a z => e.2 a (f.wl a z), f.len, f.xn, f.xd, f.xw, fun a z => e.2 a (f.xl a z)⟩
theorem Fr.fz0 (f : Fr K sh W X Fm H σ δ) (h : sh i = .fz) : Fm i = [] := by
  cases e : dAt δ i with
  | none => exact f.un i e
  | some t =>
    obtain ⟨v, _, o⟩ := f.rel i t e
    rw [h] at o
    exact o.fz.2
theorem Fr.vw0 (f : Fr K sh W X Fm H σ δ) (h : sh i = .vw) : Fm i = [] := by
  cases e : dAt δ i with
  | none => exact f.un i e
  | some t =>
    obtain ⟨v, _, o⟩ := f.rel i t e
    rw [h] at o
    exact o.vw.2
theorem Fr.var (f : Fr K sh W X Fm H σ δ) (h : sh i = .fz) (e : dAt δ i = some t) : ∃ v, σ[i]? = some (some v) ∧ Df K (Gw X Fm W) H v t := by
  obtain ⟨v, h1, h2⟩ := f.rel i t e
  rw [h] at h2
  exact ⟨v, h1, h2.fz.1⟩
theorem Fr.xc0 {a d : Addr} {cl fl : Str} (f : Fr K sh W X Fm H σ δ) (h : sh i = .xc a d cl fl) : Fm i = [] := by
  cases e : dAt δ i with
  | none => exact f.un i e
  | some t =>
    obtain ⟨v, _, o⟩ := f.rel i t e
    rw [h] at o
    exact o.xc.1
theorem Fr.varV (f : Fr K sh W X Fm H σ δ) (h : sh i = .vw) (e : dAt δ i = some t) : ∃ v, σ[i]? = some (some v) ∧ Df K (Gm X Fm) H v t := by
  obtain ⟨v, h1, h2⟩ := f.rel i t e
  rw [h] at h2
  exact ⟨v, h1, h2.vw.1⟩
theorem Fr.set (f : Fr K sh W X Fm H σ δ) (h : Fm i = []) (d : Sr K X Fm W H (sh i) [] v t) : Fr K sh W X Fm H (σ.set i (some v)) (δ.set i (some t)) := by
  have l := f.len
  refine ⟨fun j u e => ?_, fun j e => ?_, f.nd, f.dj, f.dw, f.wl, by simpa using l, f.xn, f.xd, f.xw, f.xl⟩
  · by_cases z : j = i
    · subst z
      have e2 := dAt_set_eq e
      cases e2
      have lt : j < δ.length := by simpa using dAt_lt e
      refine ⟨v, by rw [List.getElem?_set_self (by omega)], ?_⟩
      rw [h]
      exact d
    · rw [dAt_set_ne z] at e
      obtain ⟨w, h1, h2⟩ := f.rel j u e
      exact ⟨w, by rw [List.getElem?_set_ne (fun q => z q.symm)]; exact h1, h2⟩
  · by_cases z : j = i
    · subst z
      exact h
    · rw [dAt_set_ne z] at e
      exact f.un j e
/-- the slot i holds a new thing of one's own -/
theorem Fr.setO (f : Fr K sh W (F ++ X) Fm H σ δ) (il : i < δ.length) (d : Ow K (Gw (F ++ X) Fm W) H (sh i) F v t) :
    Fr K sh W X (fun j => if j = i then F else Fm j) H (σ.set i (some v)) (δ.set i (some t)) := by
  have l := f.len
  have nx := List.nodup_append.mp f.xn
  have hm : ∀ j a, (a ∈ if j = i then F else Fm j) → (j = i ∧ a ∈ F) ∨ (j ≠ i ∧ a ∈ Fm j) := fun j a h => by
    by_cases z : j = i
    · rw [if_pos z] at h; exact .inl ⟨z, h⟩
    · rw [if_neg z] at h; exact .inr ⟨z, h⟩
  have hg : ∀ a, Gm X (fun j => if j = i then F else Fm j) a → Gm (F ++ X) Fm a := fun a h => h.elim (fun q => .inl (List.mem_append_right _ q)) fun ⟨j, q⟩ => (hm j a q).elim (fun z => .inl (List.mem_append_left _ z.2)) fun z => .inr ⟨j, z.2⟩
  have hw : ∀ a, Gw X (fun j => if j = i then F else Fm j) W a → Gw (F ++ X) Fm W a := fun a h => h.imp (hg a) id
  refine ⟨fun j u e => ?_, fun j e => ?_, fun j => ?_, fun j k a n q q2 => ?_, fun j a q => ?_, f.wl, by simpa using l, nx.2.1, fun j a q q2 => ?_, fun a q => f.xw a (List.mem_append_right _ q), fun a q => f.xl a (List.mem_append_right _ q)⟩
  · by_cases z : j = i
    · subst z
      have e2 := dAt_set_eq e
      cases e2
      refine ⟨v, by rw [List.getElem?_set_self (by omega)], .inr ?_⟩
      simp only [if_pos]
      exact d.weak hw
    · rw [dAt_set_ne z] at e
      obtain ⟨w, h1, h2⟩ := f.rel j u e
      refine ⟨w, by rw [List.getElem?_set_ne (fun q => z q.symm)]; exact h1, ?_⟩
      simp only [if_neg z]
      exact h2.weak hw hg
  · by_cases z : j = i
    · subst z
      have this := dAt_set_self (t := t) il
      rw [this] at e
      cases e
    · rw [dAt_set_ne z] at e
      simp only [if_neg z]
      exact f.un j e
  · by_cases z : j = i
    · simp only [if_pos z]; exact nx.1
    · simp only [if_neg z]; exact f.nd j
  · rcases hm j a q with ⟨z1, z2⟩ | ⟨z1, z2⟩ <;> rcases hm k a q2 with ⟨y1, y2⟩ | ⟨y1, y2⟩
    · exact n (z1.trans y1.symm)
    · exact f.xd k a (List.mem_append_left _ z2) y2
    · exact f.xd j a (List.mem_append_left _ y2) z2
    · exact f.dj j k a n z2 y2
  · rcases hm j a q with ⟨z1, z2⟩ | ⟨z1, z2⟩
    · exact f.xw a (List.mem_append_left _ z2)
    · exact f.dw j a z2
  · rcases hm j a q2 with ⟨z1, z2⟩ | ⟨z1, z2⟩
    · exact nx.2.2 a z2 a q rfl
    · exact f.xd j a (List.mem_append_right _ q) z2
/-- a slot is forgotten; what it held is held meanwhile -/
theorem Fr.del (f : Fr K sh W X Fm H σ δ) (i : Nat) (v : Option V) : Fr K sh W (Fm i ++ X) (fun j => if j = i then [] else Fm j) H (σ.set i v) (δ.set i none) := by
  have l := f.len
  have hm : ∀ j a, (a ∈ if j = i then [] else Fm j) → j ≠ i ∧ a ∈ Fm j := fun j a h => by
    by_cases z : j = i
    · rw [if_pos z] at h; exact absurd h List.not_mem_nil
    · rw [if_neg z] at h; exact ⟨z, h⟩
  have hg : ∀ a, Gm (Fm i ++ X) (fun j => if j = i then [] else Fm j) a → Gm X Fm a := fun a h => h.elim (fun q => (List.mem_append.mp q).elim (fun z => .inr ⟨i, z⟩) .inl) fun ⟨j, q⟩ => .inr ⟨j, (hm j a q).2⟩
  have hw : ∀ a, Gw (Fm i ++ X) (fun j => if j = i then [] else Fm j) W a → Gw X Fm W a := fun a h => h.imp (hg a) id
  refine ⟨fun j u e => ?_, fun j e => ?_, fun j => ?_, fun j k a n q q2 => f.dj j k a n (hm j a q).2 (hm k a q2).2, fun j a q => f.dw j a (hm j a q).2, f.wl, by simpa using l, ?_, fun j a q q2 => ?_, fun a q => ?_, fun a q => ?_⟩
  · by_cases z : j = i
    · subst z
      exact absurd (dAt_set_eq e) (by simp)
    · rw [dAt_set_ne z] at e
      obtain ⟨w, h1, h2⟩ := f.rel j u e
      refine ⟨w, by rw [List.getElem?_set_ne (fun q => z q.symm)]; exact h1, ?_⟩
      simp only [if_neg z]
      exact h2.weak hw hg
  · by_cases z : j = i
    · simp only [if_pos z]
    · rw [dAt_set_ne z] at e
      simp only [if_neg z]
      exact f.un j e
  · by_cases z : j = i
    · simp only [if_pos z]; exact List.nodup_nil
    · simp only [if_neg z]; exact f.nd j
  · exact List.nodup_append.mpr ⟨f.nd i, f.xn, fun a h1 b h2 e => f.xd i b h2 (by rw [← e]; exact h1)⟩
  · obtain ⟨z1, z2⟩ := hm j a q2
    rcases List.mem_append.mp q with q | q
    · exact f.dj i j a (fun z => z1 z.symm) q z2
    · exact f.xd j a q z2
  · rcases List.mem_append.mp q with q | q
    · exact f.dw i a q
    · exact f.xw a q
  · rcases List.mem_append.mp q with q | q
    · exact f.alo a ⟨i, q⟩
    · exact f.xl a q
/-- what is held meanwhile is let go -/
theorem Fr.let (f : Fr K sh W (F ++ X) Fm H σ δ) : Fr K sh W X Fm H σ δ := by
  have nx := List.nodup_append.mp f.xn
  have hg : ∀ a, Gm X Fm a → Gm (F ++ X) Fm a := fun a h => h.imp (fun q => List.mem_append_right _ q) id
  exact ⟨fun i t h => by obtain ⟨v, h1, h2⟩ := f.rel i t h; exact ⟨v, h1, h2.weak (fun a z => z.imp (hg a) id) hg⟩, f.un, f.nd, f.dj, f.dw, f.wl, f.len, nx.2.1, fun i a q => f.xd i a (List.mem_append_right _ q), fun a q => f.xw a (List.mem_append_right _ q), fun a q => f.xl a (List.mem_append_right _ q)⟩
/-- a new place is held -/
theorem Fr.hold {p : Addr} {H' : Hp} (f : Fr K sh W X Fm H σ δ) (hp : H p = none) (e : EdP noA H H') (hp' : H' p ≠ none) : Fr K sh W ([p] ++ X) Fm H' σ δ := by
  have np : ∀ a, Gw X Fm W a → a ≠ p := fun a z w => f.al a z (by rw [w]; exact hp)
  have hg : ∀ a, Gm ([p] ++ X) Fm a → Gm X Fm a ∨ H a = none := fun a h => h.elim (fun q => (List.mem_append.mp q).elim (fun z => .inr (by rw [List.mem_singleton.mp z]; exact hp)) fun z => .inl (.inl z)) fun q => .inl (.inr q)
  have f2 := f.ed0 e
  refine ⟨fun i t h => by obtain ⟨v, h1, h2⟩ := f.rel i t h; exact ⟨v, h1, h2.step e (fun _ z => z.elim) (fun a z => z.elim (fun q => (hg a q).imp .inl id) fun q => .inl (.inr q)) hg fun _ _ z => z.elim⟩, f2.un, f2.nd, f2.dj, f2.dw, f2.wl, f2.len, ?_, fun i a q => ?_, fun a q => ?_, fun a q => ?_⟩
  · exact List.nodup_append.mpr ⟨by simp, f.xn, fun a h1 b h2 z => np b (.inl (.inl h2)) (by rw [← z]; exact List.mem_singleton.mp h1)⟩
  · rcases List.mem_append.mp q with q | q
    · exact fun z => np a (.inl (.inr ⟨i, z⟩)) (List.mem_singleton.mp q)
    · exact f.xd i a q
  · rcases List.mem_append.mp q with q | q
    · exact fun z => np a (.inr z) (List.mem_singleton.mp q)
    · exact f.xw a q
  · rcases List.mem_append.mp q with q | q
    · rw [List.mem_singleton.mp q]; exact hp'
    · exact f2.xl a q
end
/-! ### readings -/
section
variable (K : PySem.W.Frag) (sh : Nat → Sh)
def Ke (Wx : WX) (W : Addr → Prop) (X : List Addr) (Fm : Nat → List Addr) (σ : L2.St) (H : Hp) (e : Xn) (δ' : Dl) : Prop :=
  ∀ d v H' Fm', Fr K sh W X Fm' H' σ δ' → Xt (Om Fm) (Om Fm') H H' → (¬ Gw X Fm' W d ∧ H' d = some (.xd [(e.fld, v)])) → Df K (Gw X Fm' W) H' v e.val → Wx (.ref (He.ga K e.cls)) (some d) σ H'
/-- how a value stands: frozen, or lent -/
def Dm (m : Bool) (X : List Addr) (Fm : Nat → List Addr) (W : Addr → Prop) (H : Hp) (x : V) (t : T) : Prop := if m then Df K (Gw X Fm W) H x t else Df K (Gm X Fm) H x t
def Kf (Wx : WX) (W : Addr → Prop) (X : List Addr) (Fm : Nat → List Addr) (σ : L2.St) (H : Hp) (r : Rs) (Q : VK) : Prop := match r with
  | none => False
  | some (.ok t, δ') => ∀ x H' Fm', Fr K sh W X Fm' H' σ δ' → Xt (Om Fm) (Om Fm') H H' → Df K (Gw X Fm' W) H' x t → Q x H'
  | some (.error e, δ') => Ke K sh Wx W X Fm σ H e δ'
/-- an expression whose value is frozen data -/
def TF (Wx : WX) (f : Dl → Rs) : TE := fun σ H Q => ∃ W X Fm δ, Fr K sh W X Fm H σ δ ∧ Kf K sh Wx W X Fm σ H (f δ) Q
def Kn (s : Sh) (Wx : WX) (W : Addr → Prop) (X : List Addr) (Fm : Nat → List Addr) (σ : L2.St) (H : Hp) (r : Rs) (Q : VK) : Prop := match r with
  | none => False
  | some (.ok t, δ') => ∀ x H' Fm' F, Fr K sh W (F ++ X) Fm' H' σ δ' → Ow K (Gw (F ++ X) Fm' W) H' s F x t → Xt (Om Fm) (fun a => a ∈ F ∨ Om Fm' a) H H' → Q x H'
  | some (.error e, δ') => Ke K sh Wx W X Fm σ H e δ'
/-- an expression that makes a thing of one's own -/
def TN (s : Sh) (Wx : WX) (f : Dl → Rs) : TE := fun σ H Q => ∃ W X Fm δ, Fr K sh W X Fm H σ δ ∧ Kn K sh s Wx W X Fm σ H (f δ) Q
/-- how a quiet expression's value stands: frozen, lent, its parts frozen, or just so -/
inductive Md where
  | fz | vw | ch | rd
def Rm (X : List Addr) (Fm : Nat → List Addr) (W : Addr → Prop) (H : Hp) (m : Md) (x : V) (t : T) : Prop := match m with
  | .fz => Df K (Gw X Fm W) H x t
  | .vw => Df K (Gm X Fm) H x t
  | .ch => Vw K (Gw X Fm W) H x t
  | .rd => Rp K H x t
/-- a quiet expression: nothing but new things comes of it, and nothing is raised -/
def TQ (m : Md) (f : Dl → Option T) : TE := fun σ H Q => ∃ W X Fm δ t, Fr K sh W X Fm H σ δ ∧ f δ = some t ∧ ∀ x H', EdP noA H H' → Rm K X Fm W H' m x t → Q x H'
end
def qE (f : Dl → Option T) : Dl → Rs := fun δ => match f δ with
  | none => none
  | some t => some (.ok t, δ)
inductive Opd where
  | var (i : Nat) | val (f : Dl → Rs)
def TO (K : PySem.W.Frag) (sh : Nat → Sh) (Wx : WX) : Opd → TE
  | .var i => tVar i
  | .val f => TF K sh Wx f
def TOs (K : PySem.W.Frag) (sh : Nat → Sh) (Wx : WX) : List Opd → TA
  | [] => tNil
  | o :: r => tCons (TO K sh Wx o) (TOs K sh Wx r)
abbrev Rls := Option (Except Xn (List (Nat ⊕ T)) × Dl)
def runs : List Opd → Dl → Rls
  | [], δ => some (.ok [], δ)
  | .var i :: r, δ => match dAt δ i with
    | none => none
    | some _ => match runs r δ with
      | none => none
      | some (.error e, δ') => some (.error e, δ')
      | some (.ok l, δ') => some (.ok (.inl i :: l), δ')
  | .val f :: r, δ => match f δ with
    | none => none
    | some (.error e, δ') => some (.error e, δ')
    | some (.ok t, δ1) => match runs r δ1 with
      | none => none
      | some (.error e, δ') => some (.error e, δ')
      | some (.ok l, δ') => some (.ok (.inr t :: l), δ')
/-- the operands' trees, those of variables as they stand now -/
def res : List (Nat ⊕ T) → Dl → Option (List T)
  | [], _ => some []
  | .inl i :: r, δ => match dAt δ i, res r δ with
    | some t, some ts => some (t :: ts)
    | _, _ => none
  | .inr t :: r, δ => match res r δ with
    | some ts => some (t :: ts)
    | none => none
inductive ArgR (K : PySem.W.Frag) (G : Addr → Prop) (H : Hp) (σ : L2.St) : List (Nat ⊕ T) → List V → Prop
  | nil : ArgR K G H σ [] []
  | var {i : Nat} {x : V} {l : List (Nat ⊕ T)} {xs : List V} : σ[i]? = some (some x) → ArgR K G H σ l xs → ArgR K G H σ (.inl i :: l) (x :: xs)
  | val {t : T} {x : V} {l : List (Nat ⊕ T)} {xs : List V} : Df K G H x t → ArgR K G H σ l xs → ArgR K G H σ (.inr t :: l) (x :: xs)
def Ka (K : PySem.W.Frag) (sh : Nat → Sh) (Wx : WX) (W : Addr → Prop) (X : List Addr) (Fm : Nat → List Addr) (σ : L2.St) (H : Hp) (r : Rls) (Q : List V → Hp → Prop) : Prop := match r with
  | none => False
  | some (.ok l, δ') => (∃ ts, res l δ' = some ts) ∧ ∀ xs H' Fm', Fr K sh W X Fm' H' σ δ' → Xt (Om Fm) (Om Fm') H H' → ArgR K (Gw X Fm' W) H' σ l xs → Q xs H'
  | some (.error e, δ') => Ke K sh Wx W X Fm σ H e δ'
section
variable {K : PySem.W.Frag} {sh : Nat → Sh} {Wx : WX} {W : Addr → Prop} {X : List Addr} {Fm Fm1 : Nat → List Addr} {H H1 : Hp} {σ : L2.St} {δ : Dl} {r : Rs} {Q : VK}
theorem Ke.shift {e : Xn} {δ' : Dl} (x1 : Xt (Om Fm) (Om Fm1) H H1) (h : Ke K sh Wx W X Fm σ H e δ') : Ke K sh Wx W X Fm1 σ H1 e δ' := fun d v H' Fm' f x q k => h d v H' Fm' f (x1.tr x) q k
theorem Kf.shift (x1 : Xt (Om Fm) (Om Fm1) H H1) (h : Kf K sh Wx W X Fm σ H r Q) : Kf K sh Wx W X Fm1 σ H1 r Q := by
  unfold Kf at h ⊢
  split at h
  · exact h
  · exact fun x H' Fm' f k d => h x H' Fm' f (x1.tr k) d
  · exact h.shift x1
theorem Kn.shift {s : Sh} (x1 : Xt (Om Fm) (Om Fm1) H H1) (h : Kn K sh s Wx W X Fm σ H r Q) : Kn K sh s Wx W X Fm1 σ H1 r Q := by
  unfold Kn at h ⊢
  split at h
  · exact h
  · exact fun x H' Fm' F f o k => h x H' Fm' F f o (x1.tr k)
  · exact h.shift x1
theorem Ka.shift {r : Rls} {Q : List V → Hp → Prop} (x1 : Xt (Om Fm) (Om Fm1) H H1) (h : Ka K sh Wx W X Fm σ H r Q) : Ka K sh Wx W X Fm1 σ H1 r Q := by
  unfold Ka at h ⊢
  split at h
  · exact h
  · exact ⟨h.1, fun x H' Fm' f k d => h.2 x H' Fm' f (x1.tr k) d⟩
  · exact h.shift x1
theorem Xt.gw {X X' : List Addr} {Fm' : Nat → List Addr} {H' : Hp} (x : Xt (Om Fm) (Om Fm') H H') (hx : ∀ a ∈ X', a ∈ X) : ∀ a, Gw X' Fm' W a → Gw X Fm W a ∨ H a = none := fun a z => z.elim (fun q => q.elim (fun w => .inl (.inl (.inl (hx a w)))) fun w => (x.2 a w).imp (fun y => .inl (.inr y)) id) fun q => .inl (.inr q)
theorem Xt.gm {X X' : List Addr} {Fm' : Nat → List Addr} {H' : Hp} (x : Xt (Om Fm) (Om Fm') H H') (hx : ∀ a ∈ X', a ∈ X) : ∀ a, Gm X' Fm' a → Gm X Fm a ∨ H a = none := fun a q => q.elim (fun w => .inl (.inl (hx a w))) fun w => (x.2 a w).imp (fun y => .inr y) id
theorem Df.xt {Fm' : Nat → List Addr} {H' : Hp} {v : V} {t : T} (x : Xt (Om Fm) (Om Fm') H H') (h : Df K (Gw X Fm W) H v t) : Df K (Gw X Fm' W) H' v t :=
  h.step x.1 (fun a z => .inl (.inl (.inr z))) (x.gw fun _ z => z)
theorem Df.xtV {Fm' : Nat → List Addr} {H' : Hp} {v : V} {t : T} (x : Xt (Om Fm) (Om Fm') H H') (h : Df K (Gm X Fm) H v t) : Df K (Gm X Fm') H' v t :=
  h.step x.1 (fun a z => .inl (.inr z)) (x.gm fun _ z => z)
theorem ArgR.xt {Fm' : Nat → List Addr} {H' : Hp} (x : Xt (Om Fm) (Om Fm') H H') : ∀ {l : List (Nat ⊕ T)} {xs : List V}, ArgR K (Gw X Fm W) H σ l xs → ArgR K (Gw X Fm' W) H' σ l xs
  | _, _, .nil => .nil
  | _, _, .var h r => .var h (ArgR.xt x r)
  | _, _, .val h r => .val (h.xt x) (ArgR.xt x r)
theorem args_ok : ∀ {os : List Opd} {H : Hp} {δ : Dl} {Fm : Nat → List Addr} {Q : List V → Hp → Prop}, Fr K sh W X Fm H σ δ → Ka K sh Wx W X Fm σ H (runs os δ) Q → TOs K sh Wx os σ H Q
  | [], H, δ, Fm, Q, f, h => h.2 [] H Fm f .refl .nil
  | .var i :: r, H, δ, Fm, Q, f, h => by
    unfold runs at h
    cases d : dAt δ i with
    | none => rw [d] at h; exact h.elim
    | some t =>
      obtain ⟨v, hv, _⟩ := f.rel i t d
      rw [d] at h
      refine ⟨v, hv, args_ok f ?_⟩
      cases e : runs r δ with
      | none => simp only [e] at h; exact h.elim
      | some p =>
        obtain ⟨p, δ'⟩ := p
        cases p with
        | error er => simp only [e] at h; exact h
        | ok l =>
          simp only [e] at h
          refine ⟨?_, fun xs H' Fm' f' x' a' => h.2 _ H' Fm' f' x' (.var hv a')⟩
          obtain ⟨⟨ts, hr⟩, _⟩ := h
          unfold res at hr
          split at hr
          · rename_i _ ts' _ q; exact ⟨ts', q⟩
          · cases hr
  | .val g :: r, H, δ, Fm, Q, f, h => by
    unfold runs at h
    refine ⟨W, X, Fm, δ, f, ?_⟩
    cases d : g δ with
    | none => rw [d] at h; exact h.elim
    | some p =>
      obtain ⟨p, δ1⟩ := p
      cases p with
      | error er => simp only [d] at h; exact h
      | ok t =>
        simp only [d] at h
        intro x H1 Fm1 f1 x1 d1
        refine args_ok f1 ?_
        cases e : runs r δ1 with
        | none => simp only [e] at h; exact h.elim
        | some p =>
          obtain ⟨p, δ'⟩ := p
          cases p with
          | error er => simp only [e] at h; exact h.shift x1
          | ok l =>
            simp only [e] at h
            refine ⟨?_, fun xs H' Fm' f' x' a' => h.2 _ H' Fm' f' (x1.tr x') (.val (d1.xt x') a')⟩
            obtain ⟨⟨ts, hr⟩, _⟩ := h
            unfold res at hr
            split at hr
            · rename_i ts' q; exact ⟨ts', q⟩
            · cases hr
end
/-! ### operations -/
inductive VwL (K : PySem.W.Frag) (G : Addr → Prop) (H : Hp) : List V → List T → Prop
  | nil : VwL K G H [] []
  | cons {v : V} {t : T} {vs : List V} {ts : List T} : Vw K G H v t → VwL K G H vs ts → VwL K G H (v :: vs) (t :: ts)
def opn (op : List T → Option T) (os : List Opd) : Dl → Rs := fun δ => match runs os δ with
  | none => none
  | some (.error e, δ') => some (.error e, δ')
  | some (.ok l, δ') => match res l δ' with
    | none => none
    | some ts => match op ts with
      | none => none
      | some c => some (.ok c, δ')
/-- a rule over values does what op does over trees -/
def DOp (K : PySem.W.Frag) (r : List V → Hp → VK → Prop) (op : List T → Option T) : Prop := ∀ (G : Addr → Prop) (H : Hp) (xs : List V) (ts : List T) (c : T) (Q : VK), VwL K G H xs ts → op ts = some c → (∀ a, G a → H a ≠ none) →
  (∀ z H', EdP noA H H' → Df K G H' z c → Q z H') → r xs H Q
/-- .. and makes a new list, dict or object -/
def DNew (K : PySem.W.Frag) (r : List V → Hp → VK → Prop) (op : List T → Option T) : Prop := ∀ (G : Addr → Prop) (H : Hp) (xs : List V) (ts : List T) (c : T) (Q : VK), VwL K G H xs ts → op ts = some c → (∀ a, G a → H a ≠ none) →
  (∀ p vs H', H p = none → EdP noA H H' → Cell K H' p c vs → DfL K (fun a => a = p ∨ G a) H' vs c.kids → Q (.ref p) H') → r xs H Q
theorem DNew.op {K : PySem.W.Frag} {r : List V → Hp → VK → Prop} {op : List T → Option T} (h : DNew K r op) : DOp K r op := fun G H xs ts c Q v e al q =>
  h G H xs ts c Q v e al fun p vs H' hp ed ce df => q _ _ ed (.nd (fun z => al p z hp) ce.r (df.weak fun a z => .inr z))
def flats (sh : Nat → Sh) : List Opd → Bool
  | [] => true
  | .var i :: r => (sh i).flat && flats sh r
  | .val _ :: r => flats sh r
def inls : List (Nat ⊕ T) → List Nat
  | [] => []
  | .inl i :: r => i :: inls r
  | .inr _ :: r => inls r
section
variable {K : PySem.W.Frag} {sh : Nat → Sh} {Wx : WX} {W : Addr → Prop} {X : List Addr} {Fm Fm1 : Nat → List Addr} {H H1 : Hp} {σ : L2.St} {δ : Dl} {r : Rs} {Q : VK}
theorem runs_flat : ∀ {os : List Opd} {δ δ' : Dl} {l : List (Nat ⊕ T)}, flats sh os = true → runs os δ = some (.ok l, δ') → ∀ i ∈ inls l, (sh i).flat = true
  | [], _, _, _, _, e => by cases e; exact fun _ z => absurd z List.not_mem_nil
  | .var j :: r, δ, δ', l, hf, e => by
    unfold flats at hf
    rw [Bool.and_eq_true] at hf
    unfold runs at e
    split at e
    · cases e
    · split at e
      · cases e
      · cases e
      · rename_i l' δ'' q
        cases e
        intro i hi
        rcases List.mem_cons.mp hi with rfl | hi
        · exact hf.1
        · exact runs_flat hf.2 q i hi
  | .val f :: r, δ, δ', l, hf, e => by
    unfold flats at hf
    unfold runs at e
    split at e
    · cases e
    · cases e
    · split at e
      · cases e
      · cases e
      · rename_i l' δ'' q
        cases e
        intro i hi
        exact runs_flat (os := r) hf q i hi
theorem flat_pln {s : Sh} (h : s.flat = true) : s.pln = true := by cases s <;> first | rfl | cases h
theorem ArgR.vw (f : Fr K sh W X Fm H σ δ) : ∀ {l : List (Nat ⊕ T)} {xs : List V} {ts : List T}, ArgR K (Gw X Fm W) H σ l xs → (∀ i ∈ inls l, (sh i).flat = true) → res l δ = some ts → VwL K (Gw X Fm W) H xs ts
  | _, _, _, .nil, _, e => by cases e; exact .nil
  | _, _, ts, .var (i := i) hv r, hf, e => by
    unfold res at e
    split at e
    · rename_i t ts' q1 q2
      cases e
      obtain ⟨v, h1, h2⟩ := f.rel i t q1
      rw [hv] at h1
      cases h1
      exact .cons ((h2.own (flat_pln (hf i (List.mem_cons_self ..)))).vw (hf i (List.mem_cons_self ..))) (ArgR.vw f r (fun j z => hf j (List.mem_cons_of_mem _ z)) q2)
    · cases e
  | _, _, ts, .val h r, hf, e => by
    unfold res at e
    split at e
    · rename_i ts' q
      cases e
      exact .cons h.vw (ArgR.vw f r hf q)
    · cases e
/-- operands, then an operation -/
theorem opn_ok {os : List Opd} {op : List T → Option T} {rr : List V → Hp → VK → Prop} (hd : DOp K rr op) (hf : flats sh os = true) (h : TF K sh Wx (opn op os) σ H Q) : TOs K sh Wx os σ H fun xs H' => rr xs H' Q := by
  obtain ⟨W, X, Fm, δ, f, h⟩ := h
  refine args_ok (W := W) (X := X) (Fm := Fm) f ?_
  unfold opn at h
  cases e : runs os δ with
  | none => simp only [e] at h; exact h.elim
  | some p =>
    obtain ⟨p, δ'⟩ := p
    cases p with
    | error er => simp only [e] at h; exact h
    | ok l =>
      simp only [e] at h
      cases q : res l δ' with
      | none => simp only [q] at h; exact h.elim
      | some ts =>
        simp only [q] at h
        cases o : op ts with
        | none => simp only [o] at h; exact h.elim
        | some c =>
          simp only [o] at h
          refine ⟨⟨ts, q⟩, fun xs H' Fm' f' x' a' => ?_⟩
          exact hd (Gw X Fm' W) H' xs ts c Q (a'.vw f' (runs_flat hf e) q) o f'.al fun z H2 e2 d2 => h z H2 Fm' (f'.ed0 e2) (x'.ed0 e2) d2
theorem opn_new {os : List Opd} {op : List T → Option T} {rr : List V → Hp → VK → Prop} (hd : DNew K rr op) (hf : flats sh os = true) (hk : ∀ ts c, op ts = some c → (Sh.all .fz).kids c = some (c.kids.map fun _ => .fz)) (h : TN K sh (.all .fz) Wx (opn op os) σ H Q) : TOs K sh Wx os σ H fun xs H' => rr xs H' Q := by
  obtain ⟨W, X, Fm, δ, f, h⟩ := h
  refine args_ok (W := W) (X := X) (Fm := Fm) f ?_
  unfold opn at h
  cases e : runs os δ with
  | none => simp only [e] at h; exact h.elim
  | some p =>
    obtain ⟨p, δ'⟩ := p
    cases p with
    | error er => simp only [e] at h; exact h
    | ok l =>
      simp only [e] at h
      cases q : res l δ' with
      | none => simp only [q] at h; exact h.elim
      | some ts =>
        simp only [q] at h
        cases o : op ts with
        | none => simp only [o] at h; exact h.elim
        | some c =>
          simp only [o] at h
          refine ⟨⟨ts, q⟩, fun xs H' Fm' f' x' a' => ?_⟩
          refine hd (Gw X Fm' W) H' xs ts c Q (a'.vw f' (runs_flat hf e) q) o f'.al fun p vs H2 hp e2 ce d2 => ?_
          refine h (.ref p) H2 Fm' [p] (f'.hold hp e2 ce.r.alive) ?_ ⟨x'.1.tr e2 (fun _ z => z.elim), fun a z => ?_⟩
          · have := hk ts c o
            refine Ow.nd ce this ?_
            refine DfL.ow (d2.weak fun a z => ?_)
            rcases z with (z | z) | z
            · rcases List.mem_append.mp z with z | z
              · exact .inl (List.mem_singleton.mp z)
              · exact .inr (.inl (.inl z))
            · exact .inr (.inl (.inr z))
            · exact .inr (.inr z)
          · rcases z with z | z
            · exact .inr (x'.1.free (by rw [List.mem_singleton.mp z]; exact hp))
            · exact x'.2 a z
/-- quiet is enough -/
theorem TQ.tf {f : Dl → Option T} (h : TF K sh Wx (qE f) σ H Q) : TQ K sh .fz f σ H Q := by
  obtain ⟨W, X, Fm, δ, fr, h⟩ := h
  unfold qE at h
  cases e : f δ with
  | none => simp only [e] at h; exact h.elim
  | some t =>
    simp only [e] at h
    exact ⟨W, X, Fm, δ, t, fr, e, fun x H' ed d => h x H' Fm (fr.ed0 ed) ed.xt0 d⟩
end
end NQ
namespace NQ
open PySem L2
theorem pe_imp {X : Cx} {e : Expr} {t t' : TE} (h : PE X e t) (i : ∀ σ H Q, t' σ H Q → t σ H Q) : PE X e t' := ⟨fun pins s σ H Q I q => h.run pins s σ H Q I (i σ H Q q)⟩
theorem pt_imp {X : Cx} {e : Expr} {t t' : TT} (h : PT X e t) (i : ∀ σ H Q, t' σ H Q → t σ H Q) : PT X e t' := ⟨fun pins s σ H Q I q => h.run pins s σ H Q I (i σ H Q q)⟩
theorem pw_imp {X : Cx} {e : Expr} {t t' : TT} (h : PW X e t) (i : ∀ σ H Q, t' σ H Q → t σ H Q) : PW X e t' := ⟨fun wh pins s σ H Q I q => h.run wh pins s σ H Q I (i σ H Q q)⟩
theorem ps_imp {X : Cx} {e : Stmt} {t t' : TS} (h : PS X e t) (i : ∀ D σ H, t' D σ H → t D σ H) : PS X e t' := ⟨fun pins s σ H D I q => h.run pins s σ H D I (i D σ H q)⟩
theorem pss_imp {X : Cx} {e : List Stmt} {t t' : TS} (h : PSs X e t) (i : ∀ D σ H, t' D σ H → t D σ H) : PSs X e t' := ⟨fun pins s σ H D I q => h.run pins s σ H D I (i D σ H q)⟩
theorem pe_or {X : Cx} {e : Expr} {t t' : TE} (h : PE X e t) (h' : PE X e t') : PE X e fun σ H Q => t σ H Q ∨ t' σ H Q := ⟨fun pins s σ H Q I q => q.elim (h.run pins s σ H Q I) (h'.run pins s σ H Q I)⟩
theorem pt_or {X : Cx} {e : Expr} {t t' : TT} (h : PT X e t) (h' : PT X e t') : PT X e fun σ H Q => t σ H Q ∨ t' σ H Q := ⟨fun pins s σ H Q I q => q.elim (h.run pins s σ H Q I) (h'.run pins s σ H Q I)⟩
/-! ### expressions by their operands -/
def tAll : List TE → TA
  | [] => tNil
  | t :: r => tCons t (tAll r)
inductive PEs (X : Cx) : List Expr → List TE → Prop
  | nil : PEs X [] []
  | cons {e : Expr} {es : List Expr} {t : TE} {ts : List TE} : PE X e t → PEs X es ts → starEach (e :: es) X.env = (false, eval e X.env) :: starEach es X.env → PEs X (e :: es) (t :: ts)
theorem PEs.c {X : Cx} {e : Expr} {es : List Expr} {t : TE} {ts : List TE} (h : PE X e t) (r : PEs X es ts) (hs : starEach (e :: es) X.env = (false, eval e X.env) :: starEach es X.env := by rfl) : PEs X (e :: es) (t :: ts) := .cons h r hs
theorem PEs.pa {X : Cx} : ∀ {es : List Expr} {ts : List TE}, PEs X es ts → PA X es (tAll ts)
  | _, _, .nil => pa_nil
  | _, _, .cons h r s => pa_cons h (PEs.pa r) s
abbrev RV := List V → Hp → VK → Prop
/-- e makes its operands from the left, then does what r tells -/
def Con (X : Cx) (e : Expr) (es : List Expr) (r : RV) : Prop := ∀ ts, PEs X es ts → PE X e fun σ H Q => tAll ts σ H fun xs H' => r xs H' Q
def ConT (X : Cx) (e : Expr) (es : List Expr) (r : RV) : Prop := ∀ ts, PEs X es ts → PT X e fun σ H Q => tAll ts σ H fun xs H' => r xs H' fun x H'' => ∃ k, x = .bl k ∧ Q k H''
def rOr (r r' : RV) : RV := fun xs H Q => r xs H Q ∨ r' xs H Q
def r1 (r : V → Hp → VK → Prop) : RV := fun xs H Q => match xs with
  | [x] => r x H Q
  | _ => False
def r2 (r : R2) : RV := fun xs H Q => match xs with
  | [x, y] => r x y H Q
  | _ => False
section
variable {X : Cx} {a b : Expr} {pos : Pos} {r : R2}
theorem tAll_imp : ∀ {ts : List TE} {σ : L2.St} {H : Hp} {Q Q' : List V → Hp → Prop}, (∀ t ∈ ts, ∀ σ H (Q Q' : VK), (∀ x H', Q x H' → Q' x H') → t σ H Q → t σ H Q') → (∀ xs H', Q xs H' → Q' xs H') → tAll ts σ H Q → tAll ts σ H Q'
  | [], _, _, _, _, _, i, h => i _ _ h
  | t :: r, σ, H, Q, Q', m, i, h => m t (List.mem_cons_self ..) σ H _ _ (fun x H' q => tAll_imp (ts := r) (fun u hu => m u (List.mem_cons_of_mem _ hu)) (fun xs H2 k => i _ _ k) q) h
theorem con_bin {op : Operator} (ho : OpR X (binaryOp op) r) : Con X (.BinOp a op b pos) [a, b] (r2 r) := fun ts h => by
  cases h with
  | cons h1 h2 s1 =>
    cases h2 with
    | cons h2 h3 s2 =>
      cases h3
      exact pe_op ho h1 h2
theorem con_cmp {op : CmpOp} (ho : OpR X (compareOp op) r) (hm : behindInMarks op b = false) : Con X (.Compare a [op] [b] pos) [a, b] (r2 r) := fun ts h => by
  cases h with
  | cons h1 h2 s1 =>
    cases h2 with
    | cons h2 h3 s2 =>
      cases h3
      exact pe_cmpR ho h1 h2 hm
theorem cont_cmp {op : CmpOp} (ho : OpR X (compareOp op) r) (hm : behindInMarks op b = false) : ConT X (.Compare a [op] [b] pos) [a, b] (r2 r) := fun ts h => by
  cases h with
  | cons h1 h2 s1 =>
    cases h2 with
    | cons h2 h3 s2 =>
      cases h3
      exact pt_cmpR ho h1 h2 hm
theorem con_un {op : UnaryOp} {r : V → Hp → VK → Prop} (ho : UnR X (unaryOp op) r) : Con X (.UnaryOp op a pos) [a] (r1 r) := fun ts h => by
  cases h with
  | cons h1 h2 s1 =>
    cases h2
    exact pe_un ho h1
theorem con_ix (hr : IxR X r) (hs : PlainIx b) : Con X (.Subscript a b pos) [a, b] (r2 r) := fun ts h => by
  cases h with
  | cons h1 h2 s1 =>
    cases h2 with
    | cons h2 h3 s2 =>
      cases h3
      exact pe_ix hr h1 h2 hs
def rDGet : R2 := fun x y H Q => ∃ a v, x = .ref a ∧ DGet H a y (some v) ∧ Q v H
theorem con_dget (hu : X.A.units + 1 < cLine) (hs : NoSl b) : Con X (.Subscript a b pos) [a, b] (r2 rDGet) := fun ts h => by
  cases h with
  | cons h1 h2 s1 =>
    cases h2 with
    | cons h2 h3 s2 =>
      cases h3
      exact pe_dget hu h1 h2 hs

theorem con_callB {x : Str} {id : String} {e : Expr} {es : List Expr} {p : Pos} {r : RV} (hc : CallR X (.builtin id) r) (hm : X.mg x = none) (hv : bootBuiltins x = some (.builtin id)) (hg : Gl X x := by rfl) (hn : x ≠ "__name__" := by decide) (hdb : (x == ("__debug__" : Str)) = false := by decide)
    (hpl : (backTo pos (starEach es X.env)).any (·.1) = false := by rfl) : Con X (.Call (.Name x p) (e :: es) [] pos) (e :: es) r := fun ts h => by
  cases h with
  | cons h1 h2 s1 => exact pe_callB hc hg hm hv (PEs.cons h1 h2 s1).pa hn hdb s1 hpl
theorem con_callTy {x : Str} {n : String} {e : Expr} {es : List Expr} {p : Pos} {r : RV} (hc : CallR X (.type n) r) (hm : X.mg x = none) (hv : bootBuiltins x = some (.type n)) (hg : Gl X x := by rfl) (hn : x ≠ "__name__" := by decide) (hdb : (x == ("__debug__" : Str)) = false := by decide)
    (hpl : (backTo pos (starEach es X.env)).any (·.1) = false := by rfl) : Con X (.Call (.Name x p) (e :: es) [] pos) (e :: es) r := fun ts h => by
  cases h with
  | cons h1 h2 s1 => exact pe_callTy hc hg hm hv (PEs.cons h1 h2 s1).pa hn hdb s1 hpl
end
/-! ### what rules do over trees -/
/-- operands by what they stand for alone; the outcome lies apart from all that was -/
def DRd (K : PySem.W.Frag) (r : RV) (op : List T → Option T) : Prop := ∀ (H : Hp) (xs : List V) (ts : List T) (c : T) (Q : VK), RpL K H xs ts → op ts = some c →
  (∀ z H', EdP noA H H' → (∀ G : Addr → Prop, (∀ a, G a → H a ≠ none) → Df K G H' z c) → Q z H') → r xs H Q
theorem VwL.rp {K : PySem.W.Frag} {G : Addr → Prop} {H : Hp} : ∀ {vs : List V} {ts : List T}, VwL K G H vs ts → RpL K H vs ts
  | _, _, .nil => .nil
  | _, _, .cons h r => .cons h.rp (VwL.rp r)
theorem DRd.op {K : PySem.W.Frag} {r : RV} {op : List T → Option T} (h : DRd K r op) : DOp K r op := fun G H xs ts c Q v e al q => h H xs ts c Q v.rp e fun z H' ed d => q z H' ed (d G al)
abbrev Op := List T → Option T
def altT (f g : Op) : Op := fun ts => match f ts with
  | some c => some c
  | none => g ts
inductive CoR (X : Cx) (K : PySem.W.Frag) (e : Expr) (es : List Expr) : Op → Prop
  | one {r : RV} {op : Op} : Con X e es r → DRd K r op → CoR X K e es op
  | alt {f g : Op} : CoR X K e es f → CoR X K e es g → CoR X K e es (altT f g)
inductive Co (X : Cx) (K : PySem.W.Frag) (e : Expr) (es : List Expr) : Op → Prop
  | one {r : RV} {op : Op} : Con X e es r → DOp K r op → Co X K e es op
  | alt {f g : Op} : Co X K e es f → Co X K e es g → Co X K e es (altT f g)
inductive CoRT (X : Cx) (K : PySem.W.Frag) (e : Expr) (es : List Expr) : Op → Prop
  | one {r : RV} {op : Op} : ConT X e es r → DRd K r op → (∀ ts c, op ts = some c → ∃ b, c = .bl b) → CoRT X K e es op
  | alt {f g : Op} : CoRT X K e es f → CoRT X K e es g → CoRT X K e es (altT f g)
theorem CoR.co {X : Cx} {K : PySem.W.Frag} {e : Expr} {es : List Expr} {op : Op} (h : CoR X K e es op) : Co X K e es op := by
  induction h with
  | one c d => exact .one c d.op
  | alt _ _ h1 h2 => exact .alt h1 h2
/-- new lists, dicts -/
inductive CoN (X : Cx) (K : PySem.W.Frag) (e : Expr) (es : List Expr) : Op → Prop
  | one {r : RV} {op : Op} : Con X e es r → DNew K r op → (∀ ts c, op ts = some c → (Sh.all .fz).kids c = some (c.kids.map fun _ => .fz)) → CoN X K e es op
  | alt {f g : Op} : CoN X K e es f → CoN X K e es g → CoN X K e es (altT f g)
theorem CoN.co {X : Cx} {K : PySem.W.Frag} {e : Expr} {es : List Expr} {op : Op} (h : CoN X K e es op) : Co X K e es op := by
  induction h with
  | one c d k => exact .one c d.op
  | alt _ _ h1 h2 => exact .alt h1 h2
/-! ### quiet operands -/
abbrev Qf := Dl → Option T
def evq : List Qf → Dl → Option (List T)
  | [], _ => some []
  | f :: r, δ => match f δ with
    | none => none
    | some t => match evq r δ with
      | none => none
      | some ts => some (t :: ts)
def opq (op : Op) (fs : List Qf) : Qf := fun δ => match evq fs δ with
  | none => none
  | some ts => op ts
inductive RmL (K : PySem.W.Frag) (X : List Addr) (Fm : Nat → List Addr) (W : Addr → Prop) (H : Hp) : List Md → List V → List T → Prop
  | nil : RmL K X Fm W H [] [] []
  | cons {m : Md} {ms : List Md} {v : V} {t : T} {vs : List V} {ts : List T} : Rm K X Fm W H m v t → RmL K X Fm W H ms vs ts → RmL K X Fm W H (m :: ms) (v :: vs) (t :: ts)
section
variable {K : PySem.W.Frag} {sh : Nat → Sh} {Wx : WX} {W : Addr → Prop} {X : List Addr} {Fm Fm1 : Nat → List Addr} {H H' H1 : Hp} {σ : L2.St} {δ : Dl} {Q : VK}
mutual
theorem Rp.ed0 (e : EdP noA H H') : ∀ {v : V} {t : T}, Rp K H v t → Rp K H' v t
  | _, _, .sc h => .sc h
  | _, _, .nd c r => .nd (c.keep fun o q => e.1 _ _ (fun z => z) q) (RpL.ed0 e r)
theorem RpL.ed0 (e : EdP noA H H') : ∀ {vs : List V} {ts : List T}, RpL K H vs ts → RpL K H' vs ts
  | _, _, .nil => .nil
  | _, _, .cons h r => .cons (Rp.ed0 e h) (RpL.ed0 e r)
end
theorem Vw.ed0 {G : Addr → Prop} {v : V} {t : T} (e : EdP noA H H') (h : Vw K G H v t) : Vw K G H' v t := by
  rcases h with h | ⟨a, vs, h1, h2, h3⟩
  · exact .inl h
  · exact .inr ⟨a, vs, h1, h2.keep fun o q => e.1 _ _ (fun z => z) q, h3.ed0 e⟩
theorem Rm.ed0 {m : Md} {v : V} {t : T} (e : EdP noA H H') (h : Rm K X Fm W H m v t) : Rm K X Fm W H' m v t := by
  cases m with
  | fz => exact Df.ed0 e h
  | vw => exact Df.ed0 e h
  | ch => exact Vw.ed0 e h
  | rd => exact Rp.ed0 e h
theorem Rm.rp {m : Md} {v : V} {t : T} (h : Rm K X Fm W H m v t) : Rp K H v t := by
  cases m with
  | fz => exact Df.rp h
  | vw => exact Df.rp h
  | ch => exact Vw.rp h
  | rd => exact h
theorem RmL.rp : ∀ {ms : List Md} {vs : List V} {ts : List T}, RmL K X Fm W H ms vs ts → RpL K H vs ts
  | _, _, _, .nil => .nil
  | _, _, _, .cons h r => .cons h.rp (RmL.rp r)
def chL (ms : List Md) : Bool := ms.all fun m => match m with | .fz => true | .ch => true | _ => false
def vwL (ms : List Md) : Bool := ms.all fun m => match m with | .fz => true | .vw => true | _ => false
theorem RmL.ch : ∀ {ms : List Md} {vs : List V} {ts : List T}, chL ms = true → RmL K X Fm W H ms vs ts → VwL K (Gw X Fm W) H vs ts
  | _, _, _, _, .nil => .nil
  | m :: ms, _, _, z, .cons h r => by
    unfold chL at z
    rw [List.all_cons, Bool.and_eq_true] at z
    refine .cons ?_ (RmL.ch z.2 r)
    cases m with
    | fz => exact Df.vw h
    | ch => exact h
    | vw => exact absurd z.1 Bool.false_ne_true
    | rd => exact absurd z.1 Bool.false_ne_true
theorem RmL.vw : ∀ {ms : List Md} {vs : List V} {ts : List T}, vwL ms = true → RmL K X Fm W H ms vs ts → VwL K (Gm X Fm) H vs ts
  | _, _, _, _, .nil => .nil
  | m :: ms, _, _, z, .cons h r => by
    unfold vwL at z
    rw [List.all_cons, Bool.and_eq_true] at z
    refine .cons ?_ (RmL.vw z.2 r)
    cases m with
    | fz => exact Df.vw (Df.weak (fun a q => .inl q) h)
    | vw => exact Df.vw h
    | ch => exact absurd z.1 Bool.false_ne_true
    | rd => exact absurd z.1 Bool.false_ne_true
theorem RmL.ed0 (e : EdP noA H H') : ∀ {ms : List Md} {vs : List V} {ts : List T}, RmL K X Fm W H ms vs ts → RmL K X Fm W H' ms vs ts
  | _, _, _, .nil => .nil
  | _, _, _, .cons h r => .cons (h.ed0 e) (RmL.ed0 e r)
theorem qargs : ∀ {l : List (Md × Qf)} {H : Hp} {ts : List T} {Q : List V → Hp → Prop}, Fr K sh W X Fm H σ δ → evq (l.map Prod.snd) δ = some ts → (∀ xs H', EdP noA H H' → RmL K X Fm W H' (l.map Prod.fst) xs ts → Q xs H') → tAll (l.map fun p => TQ K sh p.1 p.2) σ H Q
  | [], H, ts, Q, f, e, k => by cases e; exact k [] H .refl .nil
  | (m, g) :: r, H, ts, Q, f, e, k => by
    simp only [List.map_cons] at e ⊢
    unfold evq at e
    cases d : g δ with
    | none => simp only [d] at e; cases e
    | some t =>
      simp only [d] at e
      cases q : evq (r.map Prod.snd) δ with
      | none => simp only [q] at e; cases e
      | some us =>
        simp only [q] at e
        cases e
        refine ⟨W, X, Fm, δ, t, f, d, fun x H1 e1 h1 => ?_⟩
        refine qargs (f.ed0 e1) q fun xs H2 e2 h2 => ?_
        exact k _ H2 (e1.tr e2 fun _ z => z.elim) (.cons (h1.ed0 e2) h2)
end
section
variable {X : Cx} {K : PySem.W.Frag} {sh : Nat → Sh} {Wx : WX} {e : Expr} {es : List Expr} {op : Op} {l : List (Md × Qf)} {os : List Opd}
theorem TQ.sem {m : Md} {g : Qf} {σ : L2.St} {H : Hp} {Q : VK} (h : TQ K sh m (opq op (l.map Prod.snd)) σ H Q) : ∃ W Y Fm δ ts c, Fr K sh W Y Fm H σ δ ∧ evq (l.map Prod.snd) δ = some ts ∧ op ts = some c ∧ ∀ x H', EdP noA H H' → Rm K Y Fm W H' m x c → Q x H' := by
  obtain ⟨W, Y, Fm, δ, t, f, e, k⟩ := h
  unfold opq at e
  cases q : evq (l.map Prod.snd) δ with
  | none => simp only [q] at e; cases e
  | some ts => simp only [q] at e; exact ⟨W, Y, Fm, δ, ts, t, f, q, e, k⟩
theorem alt_q {m : Md} {f g : Op} {σ : L2.St} {H : Hp} {Q : VK} (h : TQ K sh m (opq (altT f g) (l.map Prod.snd)) σ H Q) : TQ K sh m (opq f (l.map Prod.snd)) σ H Q ∨ TQ K sh m (opq g (l.map Prod.snd)) σ H Q := by
  obtain ⟨W, Y, Fm, δ, ts, c, fr, e1, e2, k⟩ := h.sem (g := fun _ => none)
  unfold altT at e2
  cases q : f ts with
  | some d =>
    simp only [q] at e2
    cases e2
    exact .inl ⟨W, Y, Fm, δ, _, fr, by unfold opq; simp only [e1, q], k⟩
  | none =>
    simp only [q] at e2
    exact .inr ⟨W, Y, Fm, δ, c, fr, by unfold opq; simp only [e1, e2], k⟩
theorem m_q (c : Co X K e es op) (hs : PEs X es (l.map fun p => TQ K sh p.1 p.2)) (hm : chL (l.map Prod.fst) = true := by rfl) : PE X e (TQ K sh .fz (opq op (l.map Prod.snd))) := by
  induction c with
  | one c d =>
    refine pe_imp (c _ hs) fun σ H Q h => ?_
    obtain ⟨W, Y, Fm, δ, ts, c, fr, e1, e2, k⟩ := h.sem (g := fun _ => none)
    exact qargs fr e1 fun xs H' ed r => d (Gw Y Fm W) H' xs ts c Q (r.ch hm) e2 (fr.ed0 ed).al fun z H2 ed2 dz => k z H2 (ed.tr ed2 fun _ z => z.elim) dz
  | alt _ _ h1 h2 => exact pe_imp (pe_or h1 h2) fun σ H Q h => alt_q h
theorem m_qv (c : Co X K e es op) (hs : PEs X es (l.map fun p => TQ K sh p.1 p.2)) (hm : vwL (l.map Prod.fst) = true := by rfl) : PE X e (TQ K sh .vw (opq op (l.map Prod.snd))) := by
  induction c with
  | one c d =>
    refine pe_imp (c _ hs) fun σ H Q h => ?_
    obtain ⟨W, Y, Fm, δ, ts, c, fr, e1, e2, k⟩ := h.sem (g := fun _ => none)
    exact qargs fr e1 fun xs H' ed r => d (Gm Y Fm) H' xs ts c Q (r.vw hm) e2 (fr.ed0 ed).alm fun z H2 ed2 dz => k z H2 (ed.tr ed2 fun _ z => z.elim) dz
  | alt _ _ h1 h2 => exact pe_imp (pe_or h1 h2) fun σ H Q h => alt_q h
theorem m_qr (c : CoR X K e es op) (hs : PEs X es (l.map fun p => TQ K sh p.1 p.2)) : PE X e (TQ K sh .fz (opq op (l.map Prod.snd))) := by
  induction c with
  | one c d =>
    refine pe_imp (c _ hs) fun σ H Q h => ?_
    obtain ⟨W, Y, Fm, δ, ts, c, fr, e1, e2, k⟩ := h.sem (g := fun _ => none)
    exact qargs fr e1 fun xs H' ed r => d H' xs ts c Q r.rp e2 fun z H2 ed2 dz => k z H2 (ed.tr ed2 fun _ z => z.elim) (dz _ (fr.ed0 ed).al)
  | alt _ _ h1 h2 => exact pe_imp (pe_or h1 h2) fun σ H Q h => alt_q h
theorem TOs_all : ∀ os : List Opd, tAll (os.map (TO K sh Wx)) = TOs K sh Wx os
  | [] => rfl
  | o :: r => by show tCons _ _ = tCons _ _; rw [TOs_all r]
theorem opn_alt {f g : Op} {δ : Dl} : opn (altT f g) os δ = match opn f os δ with | none => opn g os δ | some r => some r := by
  unfold opn altT
  cases runs os δ with
  | none => rfl
  | some p =>
    obtain ⟨p, δ'⟩ := p
    cases p with
    | error er => rfl
    | ok l =>
      simp only
      cases res l δ' with
      | none => rfl
      | some ts => simp only; cases f ts <;> rfl
theorem m_e (c : Co X K e es op) (hs : PEs X es (os.map (TO K sh Wx))) (hf : flats sh os = true := by rfl) : PE X e (TF K sh Wx (opn op os)) := by
  induction c with
  | one c d =>
    refine pe_imp (c _ hs) fun σ H Q h => ?_
    have := opn_ok d hf h
    rw [← TOs_all] at this
    exact this
  | alt _ _ h1 h2 =>
    refine pe_imp (pe_or h1 h2) fun σ H Q h => ?_
    obtain ⟨W, Y, Fm, δ, fr, h⟩ := h
    rw [opn_alt] at h
    split at h
    · exact .inr ⟨W, Y, Fm, δ, fr, h⟩
    · rename_i r q; exact .inl ⟨W, Y, Fm, δ, fr, by rw [q]; exact h⟩
/-- a new list or dict of one's own -/
theorem m_n (c : CoN X K e es op) (hs : PEs X es (os.map (TO K sh Wx))) (hf : flats sh os = true := by rfl) : PE X e (TN K sh (.all .fz) Wx (opn op os)) := by
  induction c with
  | one c d k =>
    refine pe_imp (c _ hs) fun σ H Q h => ?_
    have := opn_new d hf k h
    rw [← TOs_all] at this
    exact this
  | alt _ _ h1 h2 =>
    refine pe_imp (pe_or h1 h2) fun σ H Q h => ?_
    obtain ⟨W, Y, Fm, δ, fr, h⟩ := h
    rw [opn_alt] at h
    split at h
    · exact .inr ⟨W, Y, Fm, δ, fr, h⟩
    · rename_i r q; exact .inl ⟨W, Y, Fm, δ, fr, by rw [q]; exact h⟩
/-! ### slots, written things, coercions -/
theorem m_tf {f : Qf} (h : PE X e (TQ K sh .fz f)) : PE X e (TF K sh Wx (qE f)) := pe_imp h fun _ _ _ h => TQ.tf h
theorem m_up {f : Qf} {m : Md} (h : PE X e (TQ K sh .fz f)) (hm : m = .ch ∨ m = .vw ∨ m = .rd) : PE X e (TQ K sh m f) := pe_imp h fun σ H Q ⟨W, Y, Fm, δ, t, fr, e1, k⟩ => ⟨W, Y, Fm, δ, t, fr, e1, fun x H' ed r => k x H' ed (by
  rcases hm with rfl | rfl | rfl
  · exact Df.vw r
  · exact Df.weak (fun a q => .inl q) r
  · exact Df.rp r)⟩
end
end NQ
namespace NQ
open PySem L2
/-! ### operands that are stored: lists, tuples written out -/
def DSt (K : PySem.W.Frag) (r : RV) (op : Op) : Prop := ∀ (G : Addr → Prop) (H : Hp) (xs : List V) (ts : List T) (c : T) (Q : VK), DfL K G H xs ts → op ts = some c → (∀ a, G a → H a ≠ none) →
  (∀ p vs H', H p = none → EdP noA H H' → CellR K H' p c vs → (∀ (s : Sh) (ss : List Sh), s.kids c = some ss → Cell K H' p c vs) → DfL K (fun a => a = p ∨ G a) H' vs c.kids → Q (.ref p) H') → r xs H Q
section
variable {K : PySem.W.Frag} {sh : Nat → Sh} {Wx : WX} {W : Addr → Prop} {X : List Addr} {Fm Fm1 : Nat → List Addr} {H H' H1 : Hp} {σ : L2.St} {δ : Dl} {Q : VK}
theorem RmL.df : ∀ {ms : List Md} {vs : List V} {ts : List T}, (ms.all fun m => match m with | .fz => true | _ => false) = true → RmL K X Fm W H ms vs ts → DfL K (Gw X Fm W) H vs ts
  | _, _, _, _, .nil => .nil
  | m :: ms, _, _, z, .cons h r => by
    rw [List.all_cons, Bool.and_eq_true] at z
    refine .cons ?_ (RmL.df z.2 r)
    cases m with
    | fz => exact h
    | ch => exact absurd z.1 Bool.false_ne_true
    | vw => exact absurd z.1 Bool.false_ne_true
    | rd => exact absurd z.1 Bool.false_ne_true
theorem RmL.dv : ∀ {ms : List Md} {vs : List V} {ts : List T}, vwL ms = true → RmL K X Fm W H ms vs ts → DfL K (Gm X Fm) H vs ts
  | _, _, _, _, .nil => .nil
  | m :: ms, _, _, z, .cons h r => by
    unfold vwL at z
    rw [List.all_cons, Bool.and_eq_true] at z
    refine .cons ?_ (RmL.dv z.2 r)
    cases m with
    | fz => exact Df.weak (fun a q => .inl q) h
    | vw => exact h
    | ch => exact absurd z.1 Bool.false_ne_true
    | rd => exact absurd z.1 Bool.false_ne_true
/-- no operand is a variable of one's own -/
def vals : List Opd → Bool
  | [] => true
  | .var _ :: _ => false
  | .val _ :: r => vals r
theorem runs_vals : ∀ {os : List Opd} {δ δ' : Dl} {l : List (Nat ⊕ T)}, vals os = true → runs os δ = some (.ok l, δ') → inls l = []
  | [], _, _, _, _, e => by cases e; rfl
  | .var j :: r, δ, δ', l, hf, e => by cases hf
  | .val f :: r, δ, δ', l, hf, e => by
    unfold vals at hf
    unfold runs at e
    split at e
    · cases e
    · cases e
    · split at e
      · cases e
      · cases e
      · rename_i l' δ'' q
        cases e
        show inls l' = []
        exact runs_vals (os := r) hf q
theorem ArgR.df : ∀ {l : List (Nat ⊕ T)} {xs : List V} {ts : List T}, ArgR K (Gw X Fm W) H σ l xs → inls l = [] → res l δ = some ts → DfL K (Gw X Fm W) H xs ts
  | _, _, _, .nil, _, e => by cases e; exact .nil
  | _, _, ts, .var (i := i) hv r, hf, e => by cases hf
  | _, _, ts, .val h r, hf, e => by
    unfold res at e
    split at e
    · rename_i ts' q
      cases e
      exact .cons h (ArgR.df r hf q)
    · cases e
theorem opn_sem {os : List Opd} {op : Op} {C : Rs → Prop} (hn : ¬ C none) (h : C (opn op os δ)) : (∃ er δ', runs os δ = some (.error er, δ') ∧ C (some (.error er, δ'))) ∨ ∃ l δ' ts c, runs os δ = some (.ok l, δ') ∧ res l δ' = some ts ∧ op ts = some c ∧ C (some (.ok c, δ')) := by
  unfold opn at h
  cases e : runs os δ with
  | none => simp only [e] at h; exact absurd h hn
  | some p =>
    obtain ⟨p, δ'⟩ := p
    cases p with
    | error er => simp only [e] at h; exact .inl ⟨er, δ', rfl, h⟩
    | ok l =>
      simp only [e] at h
      cases q : res l δ' with
      | none => simp only [q] at h; exact absurd h hn
      | some ts =>
        simp only [q] at h
        cases o : op ts with
        | none => simp only [o] at h; exact absurd h hn
        | some c => simp only [o] at h; exact .inr ⟨l, δ', ts, c, rfl, q, o, h⟩
end
section
variable {X : Cx} {K : PySem.W.Frag} {sh : Nat → Sh} {Wx : WX} {e : Expr} {es : List Expr} {op : Op} {l : List (Md × Qf)} {os : List Opd} {rr : RV}
theorem m_qs (c : Con X e es rr) (d : DSt K rr op) (hs : PEs X es (l.map fun p => TQ K sh p.1 p.2)) (hm : ((l.map Prod.fst).all fun m => match m with | .fz => true | _ => false) = true := by rfl) : PE X e (TQ K sh .fz (opq op (l.map Prod.snd))) := by
  refine pe_imp (c _ hs) fun σ H Q h => ?_
  obtain ⟨W, Y, Fm, δ, ts, c, fr, e1, e2, k⟩ := h.sem (g := fun _ => none)
  refine qargs fr e1 fun xs H' ed r => d (Gw Y Fm W) H' xs ts c Q (r.df hm) e2 (fr.ed0 ed).al fun p vs H2 hp ed2 ce _ df => k _ H2 (ed.tr ed2 fun _ z => z.elim) ?_
  exact Df.nd (fun z => (fr.ed0 ed).al p z hp) ce (df.weak fun a z => .inr z)
theorem m_qsv (c : Con X e es rr) (d : DSt K rr op) (hs : PEs X es (l.map fun p => TQ K sh p.1 p.2)) (hm : vwL (l.map Prod.fst) = true := by rfl) : PE X e (TQ K sh .vw (opq op (l.map Prod.snd))) := by
  refine pe_imp (c _ hs) fun σ H Q h => ?_
  obtain ⟨W, Y, Fm, δ, ts, c, fr, e1, e2, k⟩ := h.sem (g := fun _ => none)
  refine qargs fr e1 fun xs H' ed r => d (Gm Y Fm) H' xs ts c Q (r.dv hm) e2 (fr.ed0 ed).alm fun p vs H2 hp ed2 ce _ df => k _ H2 (ed.tr ed2 fun _ z => z.elim) ?_
  exact Df.nd (fun z => (fr.ed0 ed).alm p z hp) ce (df.weak fun a z => .inr z)
theorem m_es (c : Con X e es rr) (d : DSt K rr op) (hs : PEs X es (os.map (TO K sh Wx))) (hf : vals os = true := by rfl) : PE X e (TF K sh Wx (opn op os)) := by
  refine pe_imp (c _ hs) fun σ H Q h => ?_
  obtain ⟨W, Y, Fm, δ, fr, h⟩ := h
  show tAll (os.map (TO K sh Wx)) σ H fun xs H' => rr xs H' Q
  rw [TOs_all]
  refine args_ok (W := W) (X := Y) (Fm := Fm) fr ?_
  rcases opn_sem (C := fun r => Kf K sh Wx W Y Fm σ H r Q) (fun z => z) h with ⟨er, δ', e1, h⟩ | ⟨l, δ', ts, c, e1, e2, e3, h⟩
  · rw [e1]; exact h
  · rw [e1]
    refine ⟨⟨ts, e2⟩, fun xs H' Fm' f' x' a' => ?_⟩
    refine d (Gw Y Fm' W) H' xs ts c Q (a'.df (runs_vals hf e1) e2) e3 f'.al fun p vs H2 hp ed2 ce _ df => h _ H2 Fm' (f'.ed0 ed2) (x'.ed0 ed2) ?_
    exact Df.nd (fun z => f'.al p z hp) ce (df.weak fun a z => .inr z)
theorem m_ns (c : Con X e es rr) (d : DSt K rr op) (hk : ∀ ts c, op ts = some c → (Sh.all .fz).kids c = some (c.kids.map fun _ => .fz)) (hs : PEs X es (os.map (TO K sh Wx))) (hf : vals os = true := by rfl) : PE X e (TN K sh (.all .fz) Wx (opn op os)) := by
  refine pe_imp (c _ hs) fun σ H Q h => ?_
  obtain ⟨W, Y, Fm, δ, fr, h⟩ := h
  show tAll (os.map (TO K sh Wx)) σ H fun xs H' => rr xs H' Q
  rw [TOs_all]
  refine args_ok (W := W) (X := Y) (Fm := Fm) fr ?_
  rcases opn_sem (C := fun r => Kn K sh (.all .fz) Wx W Y Fm σ H r Q) (fun z => z) h with ⟨er, δ', e1, h⟩ | ⟨l, δ', ts, c, e1, e2, e3, h⟩
  · rw [e1]; exact h
  · rw [e1]
    refine ⟨⟨ts, e2⟩, fun xs H' Fm' f' x' a' => ?_⟩
    refine d (Gw Y Fm' W) H' xs ts c Q (a'.df (runs_vals hf e1) e2) e3 f'.al fun p vs H2 hp ed2 ce cn df => ?_
    have cc := cn _ _ (hk ts c e3)
    refine h (.ref p) H2 Fm' [p] (f'.hold hp ed2 ce.alive) ?_ ⟨x'.1.tr ed2 (fun _ z => z.elim), fun a z => ?_⟩
    · refine Ow.nd cc (hk ts c e3) ?_
      refine DfL.ow (df.weak fun a z => ?_)
      rcases z with (z | z) | z
      · rcases List.mem_append.mp z with z | z
        · exact .inl (List.mem_singleton.mp z)
        · exact .inr (.inl (.inl z))
      · exact .inr (.inl (.inr z))
      · exact .inr (.inr z)
    · rcases z with z | z
      · exact .inr (x'.1.free (by rw [List.mem_singleton.mp z]; exact hp))
      · exact x'.2 a z
def rLst : RV := fun xs H Q => xs.length ≤ sizeLine ∧ ∀ p, H p = none → Q (.ref p) (upd H p (.lst xs))
def rTup : RV := fun xs H Q => xs.length ≤ sizeLine ∧ ∀ p, H p = none → Q (.ref p) (upd H p (.tup xs))
theorem con_lst {es : List Expr} {pos : Pos} : Con X (.List es pos) es rLst := fun ts h => pe_lst h.pa
theorem con_tup {es : List Expr} {k : Nat} {pos : Pos} : Con X (.Tuple es k pos) es rTup := fun ts h => pe_tup h.pa
def lstT : Op := fun ts => if ts.length ≤ sizeLine then some (.lst ts) else none
def tupT : Op := fun ts => if ts.length ≤ sizeLine then some (.tup ts) else none
theorem st_lst : DSt K rLst lstT := fun G H xs ts c Q d e al k => by
  unfold lstT at e
  split at e
  · rename_i h
    cases e
    refine ⟨by rw [d.length]; exact h, fun p hp => k p xs _ hp (EdP.new hp) (Or.inl upd_same) (fun _ _ _ => upd_same) ?_⟩
    exact d.step (U := noA) (EdP.new hp) (fun _ z => z.elim) fun a z => z.elim (fun w => .inr (by rw [w]; exact hp)) .inl
  · cases e
theorem st_tup : DSt K rTup tupT := fun G H xs ts c Q d e al k => by
  unfold tupT at e
  split at e
  · rename_i h
    cases e
    refine ⟨by rw [d.length]; exact h, fun p hp => k p xs _ hp (EdP.new hp) upd_same (fun s ss z => ?_) ?_⟩
    · cases s <;> simp [Sh.kids] at z
    · exact d.step (U := noA) (EdP.new hp) (fun _ z => z.elim) fun a z => z.elim (fun w => .inr (by rw [w]; exact hp)) .inl
  · cases e
theorem lst_kids : ∀ ts c, lstT ts = some c → (Sh.all .fz).kids c = some (c.kids.map fun _ => .fz) := fun ts c e => by
  unfold lstT at e
  split at e
  · cases e; rfl
  · cases e
end
end NQ
namespace NQ
open PySem L2
/-! ### signs that are signs -/
theorem sok_iff {s : Str} : PyData.strOk s = true ↔ ∀ c ∈ s.cps.toList, c < 0x110000 := by
  unfold PyData.strOk
  rw [← Array.all_toList, List.all_eq_true]
  simp
theorem sok_app {a b : Str} (h1 : PyData.strOk a = true) (h2 : PyData.strOk b = true) : PyData.strOk (a ++ b) = true := sok_iff.mpr fun c hc => by
  have e : (a ++ b).cps.toList = a.cps.toList ++ b.cps.toList := by
    show (a.cps ++ b.cps).toList = _
    rw [Array.toList_append]
  rw [e] at hc
  exact (List.mem_append.mp hc).elim (sok_iff.mp h1 c) (sok_iff.mp h2 c)
theorem sok_sub {a b : Str} (h : ∀ c ∈ b.cps.toList, c ∈ a.cps.toList) (h1 : PyData.strOk a = true) : PyData.strOk b = true := sok_iff.mpr fun c hc => sok_iff.mp h1 c (h c hc)
theorem sok_one {a : Str} {c : Nat} (h : c ∈ a.cps.toList) (h1 : PyData.strOk a = true) : PyData.strOk ⟨#[c]⟩ = true := sok_sub (a := a) (fun d hd => by simp at hd; rw [hd]; exact h) h1
theorem sok_asc {x : Str} (h : ∀ c ∈ x.cps.toList, c ≤ 127) : PyData.strOk x = true := sok_iff.mpr fun c hc => Nat.lt_of_le_of_lt (h c hc) (by decide)
theorem sok_of (s : String) : PyData.strOk (Str.ofString s) = true := sok_iff.mpr fun c hc => by
  rw [Str.ofString_eq_toList] at hc
  simp only [List.mem_map] at hc
  obtain ⟨d, _, rfl⟩ := hc
  have := d.valid
  show d.val.toNat < 0x110000
  rcases this with h | h
  · exact Nat.lt_trans h (by decide)
  · exact h.2
theorem sok_int (i : Int) : PyData.strOk (toString i) = true := sok_of _
theorem sok_empty : PyData.strOk Str.empty = true := by decide +kernel
/-! ### what scalars are -/
section
variable {K : PySem.W.Frag} {H : Hp} {x : V} {i : Int} {s : Str} {b : Bool}
theorem Rp.int (h : Rp K H x (.int i)) : x = .int i := h.isS rfl
theorem Rp.bl (h : Rp K H x (.bl b)) : x = .bl b := h.isS rfl
theorem Rp.non (h : Rp K H x .non) : x = .non := h.isS rfl
theorem Rp.str (h : Rp K H x (.str s)) : x = .str s ∧ PyData.strOk s = true := by
  cases h with
  | sc h => exact h
  | nd c _ => exact c.elim
theorem Rp.ty {n : String} (h : Rp K H x (.ty n)) : x = .ty n := by
  cases h with
  | sc h => exact h
  | nd c _ => exact c.elim
theorem Rp.gl {n : Str} (h : Rp K H x (.gl n)) : x = .ref (He.ga K n) := by
  cases h with
  | sc h => exact h
  | nd c _ => exact c.elim
theorem Rp.lst {ts : List T} (h : Rp K H x (.lst ts)) : ∃ a vs, x = .ref a ∧ SqL K H a vs ∧ RpL K H vs ts := by
  cases h with
  | sc h => exact h.elim
  | nd c r => exact ⟨_, _, rfl, .inl c, r⟩
theorem RpL.sv : ∀ {ts : List T}, ts.all T.isS = true → RpL K H (ts.map T.sv) ts := fun h => (DfL.sv (G := noA) h).rp
theorem Rp.tup {ts : List T} (h : Rp K H x (.tup ts)) : ∃ a vs, x = .ref a ∧ SqT K H a vs ∧ RpL K H vs ts := by
  cases h with
  | sc h => exact h.elim
  | nd c r => exact ⟨_, _, rfl, SqT.of c, r⟩
theorem Rp.ctup {ts : List T} (h : Rp K H x (.ctup ts)) : ∃ a vs, x = .ref a ∧ SqT K H a vs ∧ RpL K H vs ts ∧ ts.all T.isS = true := by
  cases h with
  | sc h =>
    obtain ⟨a, e, h, z⟩ := h
    exact ⟨a, _, e, h H, RpL.sv z, z⟩
  | nd c r => exact c.elim
theorem Rp.clst {ts : List T} (h : Rp K H x (.clst ts)) : ∃ a vs, x = .ref a ∧ SqL K H a vs ∧ RpL K H vs ts ∧ ts.all T.isS = true := by
  cases h with
  | sc h =>
    obtain ⟨a, e, h, z⟩ := h
    exact ⟨a, _, e, h H, RpL.sv z, z⟩
  | nd c r => exact c.elim
theorem Rp.dic {ks : List Key} {ts : List T} (h : Rp K H x (.dic ks ts)) : ∃ a vs, x = .ref a ∧ ks.length = vs.length ∧ H a = some (.dK (ks.zip vs)) ∧ RpL K H vs ts := by
  cases h with
  | sc h => exact h.elim
  | nd c r => exact ⟨_, _, rfl, c.1, c.2, r⟩
theorem Rp.dit {ks : List (List Key)} {ts : List T} (h : Rp K H x (.dit ks ts)) : ∃ a vs, x = .ref a ∧ ks.length = vs.length ∧ H a = some (.dT (ks.zip vs)) ∧ RpL K H vs ts := by
  cases h with
  | sc h => exact h.elim
  | nd c r => exact ⟨_, _, rfl, c.1, c.2, r⟩
theorem RpL.one {t : T} {xs : List V} (h : RpL K H xs [t]) : ∃ x, xs = [x] ∧ Rp K H x t := by
  cases h with
  | cons h r => cases r; exact ⟨_, rfl, h⟩
theorem RpL.two {t u : T} {xs : List V} (h : RpL K H xs [t, u]) : ∃ x y, xs = [x, y] ∧ Rp K H x t ∧ Rp K H y u := by
  cases h with
  | cons h r =>
    obtain ⟨y, rfl, h2⟩ := r.one
    exact ⟨_, _, rfl, h, h2⟩
theorem RpL.three {t u w : T} {xs : List V} (h : RpL K H xs [t, u, w]) : ∃ x y z, xs = [x, y, z] ∧ Rp K H x t ∧ Rp K H y u ∧ Rp K H z w := by
  cases h with
  | cons h r =>
    obtain ⟨y, z, rfl, h2⟩ := r.two
    exact ⟨_, _, _, rfl, h, h2⟩
theorem RpL.at : ∀ {vs : List V} {ts : List T} {i : Nat} {t : T}, RpL K H vs ts → ts[i]? = some t → ∃ v, vs[i]? = some v ∧ Rp K H v t
  | _, _, _, _, .nil, e => by simp at e
  | _, _, 0, _, .cons h _, e => by simp at e; subst e; exact ⟨_, rfl, h⟩
  | _, _, i + 1, _, .cons _ r, e => by
    obtain ⟨v, h1, h2⟩ := RpL.at r (i := i) (by simpa using e)
    exact ⟨v, by simpa using h1, h2⟩
end
theorem VwL.one {K : PySem.W.Frag} {G : Addr → Prop} {H : Hp} {t : T} {xs : List V} (h : VwL K G H xs [t]) : ∃ x, xs = [x] ∧ Vw K G H x t := by
  cases h with
  | cons h r => cases r; exact ⟨_, rfl, h⟩
theorem VwL.two {K : PySem.W.Frag} {G : Addr → Prop} {H : Hp} {t u : T} {xs : List V} (h : VwL K G H xs [t, u]) : ∃ x y, xs = [x, y] ∧ Vw K G H x t ∧ Vw K G H y u := by
  cases h with
  | cons h r =>
    obtain ⟨y, rfl, h2⟩ := r.one
    exact ⟨_, _, rfl, h, h2⟩
theorem Vw.lst {K : PySem.W.Frag} {G : Addr → Prop} {H : Hp} {x : V} {ts : List T} (h : Vw K G H x (.lst ts)) : ∃ a vs, x = .ref a ∧ Rd H a (.lst vs) ∧ DfL K G H vs ts := by
  rcases h with h | ⟨a, vs, rfl, c, r⟩
  · exact h.elim
  · exact ⟨a, vs, rfl, c, r⟩
theorem Vw.tup {K : PySem.W.Frag} {G : Addr → Prop} {H : Hp} {x : V} {ts : List T} (h : Vw K G H x (.tup ts)) : ∃ a vs, x = .ref a ∧ H a = some (.tup vs) ∧ DfL K G H vs ts := by
  rcases h with h | ⟨a, vs, rfl, c, r⟩
  · exact h.elim
  · exact ⟨a, vs, rfl, c, r⟩
/-- a scalar outcome -/
theorem uni {K : PySem.W.Frag} {H : Hp} {z : V} {c : T} (h : Sc K z c) : ∀ G : Addr → Prop, (∀ a, G a → H a ≠ none) → Df K G H z c := fun _ _ => .sc h
/-! ### numbers and texts -/
def addR : Op
  | [.int i, .int j] => some (.int (i + j))
  | [.str a, .str b] => if a.length + b.length ≤ sizeLine then some (.str (a ++ b)) else none
  | _ => none
def subT : Op
  | [.int i, .int j] => some (.int (i - j))
  | _ => none
def mulR : Op
  | [.int i, .int j] => if (-(2 ^ 64) < i ∧ i < 2 ^ 64) ∨ (-(2 ^ 64) < j ∧ j < 2 ^ 64) ∨ i.natAbs.log2 + j.natAbs.log2 < 1000000 then some (.int (i * j)) else none
  | [.str a, .int n] => if -(2 ^ 20) < n ∧ n < 2 ^ 20 ∧ a.length * n.toNat ≤ 1000000 then some (.str (Txt.mul a n)) else none
  | _ => none
def modT : Op
  | [.int i, .int j] => if 0 < j then some (.int (i % j)) else none
  | _ => none
def divT : Op
  | [.int i, .int j] => if 0 < j ∧ j.natAbs.log2 < 9000 then some (.int (i / j)) else none
  | _ => none
def powT : Op
  | [.int i, .int j] => if 0 ≤ j ∧ j ≤ 1000000 ∧ i.natAbs < 2 ^ 64 then some (.int (i ^ j.toNat)) else none
  | _ => none
def cmpT (f : Int → Int → Bool) : Op
  | [.int i, .int j] => some (.bl (f i j))
  | _ => none
def negT : Op
  | [.int i] => some (.int (-i))
  | _ => none
section
variable {K : PySem.W.Frag}
theorem rd_add : DRd K (r2 NL.dAdd) addR := fun H xs ts c Q r e k => by
  unfold addR at e
  split at e
  · cases e
    obtain ⟨x, y, rfl, h1, h2⟩ := r.two
    cases h1.int; cases h2.int
    exact k _ H .refl (uni rfl)
  · split at e
    · rename_i z
      cases e
      obtain ⟨x, y, rfl, h1, h2⟩ := r.two
      obtain ⟨rfl, s1⟩ := h1.str
      obtain ⟨rfl, s2⟩ := h2.str
      exact ⟨z, k _ H .refl (uni ⟨rfl, sok_app s1 s2⟩)⟩
    · cases e
  · cases e
theorem rd_sub : DRd K (r2 NL.dSub) subT := fun H xs ts c Q r e k => by
  unfold subT at e
  split at e
  · cases e
    obtain ⟨x, y, rfl, h1, h2⟩ := r.two
    cases h1.int; cases h2.int
    exact k _ H .refl (uni rfl)
  · cases e
theorem mulOk_of {a : Str} {n : Int} (h1 : -(2 ^ 20) < n) (h2 : n < 2 ^ 20) (h3 : a.length * n.toNat ≤ 1000000) : MulOk a n := by
  refine ⟨?_, fun q1 q2 => ?_, fun q1 q2 => ?_⟩
  · rw [decide_eq_false (by omega), decide_eq_false (by omega)]; rfl
  · have hp : 0 < n := by omega
    have hx : a.length ≤ 1000000 := by
      have : a.length * 1 ≤ a.length * n.toNat := Nat.mul_le_mul_left _ (by omega)
      omega
    have hle : (2 ^ 63 - 1 : Int) / 1048576 ≤ (2 ^ 63 - 1) / n := by
      apply Int.le_ediv_of_mul_le hp
      have : (2 ^ 63 - 1 : Int) / 1048576 * n ≤ (2 ^ 63 - 1) / 1048576 * 1048576 := Int.mul_le_mul_of_nonneg_left (by omega) (by decide)
      omega
    have : (2 ^ 63 - 1 : Int) / 1048576 = 8796093022207 := by decide
    omega
  · unfold Builtin.Str.tooLong
    rw [sizeLine_eq]
    exact decide_eq_false (by omega)
theorem mem_foldl_app {l : List (Array Nat)} : ∀ {acc : Array Nat} {c : Nat}, c ∈ (l.foldl (· ++ ·) acc).toList → c ∈ acc.toList ∨ ∃ x ∈ l, c ∈ x.toList := by
  induction l with
  | nil => intro acc c h; exact .inl h
  | cons x r ih =>
    intro acc c h
    rcases ih h with h | ⟨y, h1, h2⟩
    · rw [Array.toList_append] at h
      rcases List.mem_append.mp h with h | h
      · exact .inl h
      · exact .inr ⟨x, List.mem_cons_self .., h⟩
    · exact .inr ⟨y, List.mem_cons_of_mem _ h1, h2⟩
theorem sok_mul {a : Str} {n : Int} (h : PyData.strOk a = true) : PyData.strOk (Txt.mul a n) = true := by
  unfold Txt.mul
  split
  · exact sok_empty
  · split
    · exact h
    · refine sok_sub (a := a) (fun c hc => ?_) h
      rcases mem_foldl_app hc with z | ⟨x, h1, h2⟩
      · simp at z
      · rw [(List.mem_replicate.mp h1).2] at h2; exact h2
theorem rd_mul : DRd K (r2 NL.dMul) mulR := fun H xs ts c Q r e k => by
  unfold mulR at e
  split at e
  · split at e
    · rename_i z
      cases e
      obtain ⟨x, y, rfl, h1, h2⟩ := r.two
      cases h1.int; cases h2.int
      refine ⟨?_, k _ H .refl (uni rfl)⟩
      rcases z with z | z | z
      · exact .inl (.inl z)
      · exact .inl (.inr z)
      · exact .inr z
    · cases e
  · split at e
    · rename_i z
      cases e
      obtain ⟨x, y, rfl, h1, h2⟩ := r.two
      obtain ⟨rfl, s1⟩ := h1.str
      cases h2.int
      exact ⟨mulOk_of z.1 z.2.1 z.2.2, k _ H .refl (uni ⟨rfl, sok_mul s1⟩)⟩
    · cases e
  · cases e
theorem rd_mod : DRd K (r2 NL.dMod) modT := fun H xs ts c Q r e k => by
  unfold modT at e
  split at e
  · split at e
    · rename_i z
      cases e
      obtain ⟨x, y, rfl, h1, h2⟩ := r.two
      cases h1.int; cases h2.int
      exact ⟨z, k _ H .refl (uni rfl)⟩
    · cases e
  · cases e
theorem rd_div : DRd K (r2 NL.dDiv) divT := fun H xs ts c Q r e k => by
  unfold divT at e
  split at e
  · split at e
    · rename_i z
      cases e
      obtain ⟨x, y, rfl, h1, h2⟩ := r.two
      cases h1.int; cases h2.int
      exact ⟨z, k _ H .refl (uni rfl)⟩
    · cases e
  · cases e
theorem rd_pow : DRd K (r2 NL.dPow) powT := fun H xs ts c Q r e k => by
  unfold powT at e
  split at e
  · split at e
    · rename_i z
      cases e
      obtain ⟨x, y, rfl, h1, h2⟩ := r.two
      cases h1.int; cases h2.int
      exact ⟨z, k _ H .refl (uni rfl)⟩
    · cases e
  · cases e
theorem rd_cmp {f : Int → Int → Bool} : DRd K (r2 (NL.dCmp f)) (cmpT f) := fun H xs ts c Q r e k => by
  unfold cmpT at e
  split at e
  · cases e
    obtain ⟨x, y, rfl, h1, h2⟩ := r.two
    cases h1.int; cases h2.int
    exact k _ H .refl (uni rfl)
  · cases e
theorem rd_neg : DRd K (r1 (rU fun i => .int (-i))) negT := fun H xs ts c Q r e k => by
  unfold negT at e
  split at e
  · cases e
    obtain ⟨x, rfl, h1⟩ := r.one
    cases h1.int
    exact ⟨_, rfl, k _ H .refl (uni rfl)⟩
  · cases e
theorem cmp_bl {f : Int → Int → Bool} : ∀ ts c, cmpT f ts = some c → ∃ b, c = .bl b := fun ts c e => by
  unfold cmpT at e
  split at e <;> cases e
  exact ⟨_, rfl⟩
/-! ### == and != -/
mutual
def T.pd : T → Option PyData
  | .non => some .none
  | .bl b => some (.bool b)
  | .int i => some (.int i)
  | .str s => some (.str s)
  | .lst ts => match pdL ts with | some ds => some (.list ds) | none => none
  | .tup ts => match pdL ts with | some ds => some (.tuple ds) | none => none
  | .ctup ts => match pdL ts with | some ds => some (.tuple ds) | none => none
  | .dic _ _ => none | .dit _ _ => none | .ins _ _ _ => none | .gl _ => none | .ty _ => none | .clst _ => none
def pdL : List T → Option (List PyData)
  | [] => some []
  | t :: r => match t.pd, pdL r with
    | some d, some ds => some (d :: ds)
    | _, _ => none
end
end
mutual
theorem Rp.dp {K : PySem.W.Frag} {H : Hp} : ∀ {t : T} {x : V} {d : PyData}, Rp K H x t → t.pd = some d → Dp K H x d ∧ d.canLay0 = true
  | .non, _, _, h, e => by cases e; cases h.non; exact ⟨.non, by simp [PyData.canLay0]⟩
  | .bl b, _, _, h, e => by cases e; cases h.bl; exact ⟨.bl b, by simp [PyData.canLay0]⟩
  | .int i, _, _, h, e => by cases e; cases h.int; exact ⟨.int i, by simp [PyData.canLay0]⟩
  | .str s, _, _, h, e => by
    cases e
    obtain ⟨rfl, s1⟩ := h.str
    exact ⟨.str s, by simp [PyData.canLay0, s1]⟩
  | .lst ts, _, _, h, e => by
    unfold T.pd at e
    cases q : pdL ts with
    | none => rw [q] at e; cases e
    | some ds =>
      rw [q] at e
      cases e
      obtain ⟨a, vs, rfl, h1, h2⟩ := h.lst
      obtain ⟨k1, k2⟩ := RpL.dp h2 q
      exact ⟨.lst h1 k1, by simp only [PyData.canLay0, k2]⟩
  | .tup ts, _, _, h, e => by
    unfold T.pd at e
    cases q : pdL ts with
    | none => rw [q] at e; cases e
    | some ds =>
      rw [q] at e
      cases e
      obtain ⟨a, vs, rfl, h1, h2⟩ := h.tup
      obtain ⟨k1, k2⟩ := RpL.dp h2 q
      exact ⟨.tup h1 k1, by simp only [PyData.canLay0, k2]⟩
  | .ctup ts, _, _, h, e => by
    unfold T.pd at e
    cases q : pdL ts with
    | none => rw [q] at e; cases e
    | some ds =>
      rw [q] at e
      cases e
      obtain ⟨a, vs, rfl, h1, h2, _⟩ := h.ctup
      obtain ⟨k1, k2⟩ := RpL.dp h2 q
      exact ⟨.tup h1 k1, by simp only [PyData.canLay0, k2]⟩
  | .dic _ _, _, _, _, e => by cases e
  | .dit _ _, _, _, _, e => by cases e
  | .ins _ _ _, _, _, _, e => by cases e
  | .gl _, _, _, _, e => by cases e
  | .ty _, _, _, _, e => by cases e
theorem RpL.dp {K : PySem.W.Frag} {H : Hp} : ∀ {ts : List T} {xs : List V} {ds : List PyData}, RpL K H xs ts → pdL ts = some ds → DpAll K H xs ds ∧ PyData.canLayAll0 ds = true
  | [], _, _, h, e => by cases e; cases h; exact ⟨.nil, by simp [PyData.canLayAll0]⟩
  | t :: r, _, _, h, e => by
    unfold pdL at e
    cases h with
    | cons h1 h2 =>
      split at e
      · rename_i d ds q1 q2
        cases e
        obtain ⟨k1, k2⟩ := Rp.dp h1 q1
        obtain ⟨k3, k4⟩ := RpL.dp h2 q2
        exact ⟨.cons k1 k3, by simp [PyData.canLayAll0, k2, k4]⟩
      · cases e
end
/-- == over trees -/
def eqB (a b : T) : Option Bool := match a.pd, b.pd with
  | some d, some e => if d.depth ≤ 60 ∧ e.depth ≤ 60 then some (PyData.eqv d e) else none
  | _, _ => none
def eqT : Op
  | [a, b] => match eqB a b with | some b => some (.bl b) | none => none
  | _ => none
def neT : Op
  | [a, b] => match eqB a b with | some b => some (.bl (!b)) | none => none
  | _ => none
section
variable {K : PySem.W.Frag}
theorem eqB_sem {a b : T} {c : Bool} (h : eqB a b = some c) : ∃ d e, a.pd = some d ∧ b.pd = some e ∧ d.depth ≤ 60 ∧ e.depth ≤ 60 ∧ c = PyData.eqv d e := by
  unfold eqB at h
  split at h
  · rename_i d e q1 q2
    split at h
    · rename_i z; cases h; exact ⟨d, e, q1, q2, z.1, z.2, rfl⟩
    · cases h
  · cases h
theorem shaped_of {d : PyData} (h1 : d.canLay0 = true) (h2 : d.depth ≤ 60) : SeqAt.shaped d = true := by
  simp only [SeqAt.shaped, h1, Bool.true_and]
  exact decide_eq_true (by omega)
theorem rd_eq : DRd K (r2 (NL.dEq K)) eqT := fun H xs ts c Q r e k => by
  unfold eqT at e
  split at e
  · split at e
    · rename_i q
      cases e
      obtain ⟨x, y, rfl, h1, h2⟩ := r.two
      obtain ⟨d, d', p1, p2, s1, s2, rfl⟩ := eqB_sem q
      obtain ⟨k1, k2⟩ := h1.dp p1
      obtain ⟨k3, k4⟩ := h2.dp p2
      exact .inr ⟨d, d', k1, k3, shaped_of k2 s1, shaped_of k4 s2, k _ H .refl (uni rfl)⟩
    · cases e
  · cases e
theorem rd_ne : DRd K (r2 (NL.dNe K)) neT := fun H xs ts c Q r e k => by
  unfold neT at e
  split at e
  · split at e
    · rename_i q
      cases e
      obtain ⟨x, y, rfl, h1, h2⟩ := r.two
      obtain ⟨d, d', p1, p2, s1, s2, rfl⟩ := eqB_sem q
      obtain ⟨k1, k2⟩ := h1.dp p1
      obtain ⟨k3, k4⟩ := h2.dp p2
      exact .inr ⟨d, d', k1, k3, shaped_of k2 s1, shaped_of k4 s2, k _ H .refl (uni rfl)⟩
    · cases e
  · cases e
theorem eq_bl : ∀ ts c, eqT ts = some c → ∃ b, c = .bl b := fun ts c e => by
  unfold eqT at e
  split at e
  · split at e <;> cases e
    exact ⟨_, rfl⟩
  · cases e
theorem ne_bl : ∀ ts c, neT ts = some c → ∃ b, c = .bl b := fun ts c e => by
  unfold neT at e
  split at e
  · split at e <;> cases e
    exact ⟨_, rfl⟩
  · cases e
/-! ### is None -/
def T.isN : T → Bool
  | .non => true
  | _ => false
def isNT : Op
  | [a, .non] => some (.bl a.isN)
  | _ => none
def notNT : Op
  | [a, .non] => some (.bl (!a.isN))
  | _ => none
theorem Rp.isN {H : Hp} {x : V} {t : T} (h : Rp K H x t) : decide (x = .non) = t.isN := by
  cases h with
  | sc h =>
    cases t <;> first
      | (cases h; rfl)
      | (obtain ⟨rfl, _⟩ := h; rfl)
      | exact h.elim
      | (obtain ⟨_, rfl, _⟩ := h; rfl)
  | nd c _ => cases t <;> first
      | rfl
      | exact c.elim
theorem rd_isN : DRd K (r2 NL.dIs) isNT := fun H xs ts c Q r e k => by
  unfold isNT at e
  split at e
  · cases e
    obtain ⟨x, y, rfl, h1, h2⟩ := r.two
    cases h2.non
    show Q (.bl (decide (x = .non))) H
    rw [h1.isN]
    exact k _ H .refl (uni rfl)
  · cases e
theorem rd_notN : DRd K (r2 NL.dIsNot) notNT := fun H xs ts c Q r e k => by
  unfold notNT at e
  split at e
  · cases e
    obtain ⟨x, y, rfl, h1, h2⟩ := r.two
    cases h2.non
    show Q (.bl (!decide (x = .non))) H
    rw [h1.isN]
    exact k _ H .refl (uni rfl)
  · cases e
theorem isN_bl : ∀ ts c, isNT ts = some c → ∃ b, c = .bl b := fun ts c e => by
  unfold isNT at e
  split at e <;> cases e
  exact ⟨_, rfl⟩
theorem notN_bl : ∀ ts c, notNT ts = some c → ∃ b, c = .bl b := fun ts c e => by
  unfold notNT at e
  split at e <;> cases e
  exact ⟨_, rfl⟩
/-! ### in -/
def inS (t : T) (ts : List T) : Bool := inV t.sv (ts.map T.sv)
/-- is it in: a list, a tuple, a text -/
def memB (x c : T) : Option Bool := match c with
  | .lst ts => if x.isS = true ∧ ts.all T.isS = true then some (inS x ts) else none
  | .tup ts => if x.isS = true ∧ ts.all T.isS = true then some (inS x ts) else none
  | .ctup ts => if x.isS = true then some (inS x ts) else none
  | .str z => match x with
    | .str s => match s.cps.toList with
      | [c] => some (decide (c ∈ z.cps.toList))
      | _ => none
    | _ => none
  | _ => none
def inT : Op
  | [x, c] => match memB x c with | some b => some (.bl b) | none => none
  | _ => none
def ninT : Op
  | [x, c] => match memB x c with | some b => some (.bl (!b)) | none => none
  | _ => none
theorem isS_flat {t : T} (h : t.isS = true) : flatV t.sv = true := by cases t <;> first | rfl | cases h
theorem isS_flats {ts : List T} (h : ts.all T.isS = true) : (ts.map T.sv).all flatV = true := by
  rw [List.all_map]
  exact List.all_eq_true.mpr fun t ht => isS_flat (List.all_eq_true.mp h t ht)
theorem mem_sem {H : Hp} {x y : V} {t u : T} {b : Bool} {Q : VK} (h1 : Rp K H x t) (h2 : Rp K H y u) (e : memB t u = some b) : (Q (.bl b) H → NL.dIn K x y H Q) ∧ (Q (.bl (!b)) H → NL.dNotIn K x y H Q) := by
  unfold memB at e
  split at e
  · split at e
    · rename_i z
      cases e
      obtain ⟨a, vs, rfl, k1, k2⟩ := h2.lst
      cases h1.isS z.1
      have := k2.svs z.2
      subst this
      exact ⟨fun q => ⟨_, .inl k1, isS_flat z.1, isS_flats z.2, q⟩, fun q => ⟨_, .inl k1, isS_flat z.1, isS_flats z.2, q⟩⟩
    · cases e
  · split at e
    · rename_i z
      cases e
      obtain ⟨a, vs, rfl, k1, k2⟩ := h2.tup
      cases h1.isS z.1
      have := k2.svs z.2
      subst this
      exact ⟨fun q => ⟨_, .inr k1, isS_flat z.1, isS_flats z.2, q⟩, fun q => ⟨_, .inr k1, isS_flat z.1, isS_flats z.2, q⟩⟩
    · cases e
  · split at e
    · rename_i z
      cases e
      obtain ⟨a, vs, rfl, k1, k2, k3⟩ := h2.ctup
      cases h1.isS z
      have := k2.svs k3
      subst this
      exact ⟨fun q => ⟨_, .inr k1, isS_flat z, isS_flats k3, q⟩, fun q => ⟨_, .inr k1, isS_flat z, isS_flats k3, q⟩⟩
    · cases e
  · split at e
    · split at e
      · rename_i s1 _ c q
        cases e
        obtain ⟨rfl, _⟩ := h1.str
        obtain ⟨rfl, _⟩ := h2.str
        have es : s1 = (⟨#[c]⟩ : Str) := Str.ext' (Array.toList_inj.mp (by rw [q]))
        subst es
        exact ⟨fun q => ⟨c, rfl, q⟩, fun q => ⟨c, rfl, q⟩⟩
      · cases e
    · cases e
  · cases e
theorem rd_in : DRd K (r2 (NL.dIn K)) inT := fun H xs ts c Q r e k => by
  unfold inT at e
  split at e
  · split at e
    · rename_i q
      cases e
      obtain ⟨x, y, rfl, h1, h2⟩ := r.two
      exact (mem_sem h1 h2 q).1 (k _ H .refl (uni rfl))
    · cases e
  · cases e
theorem rd_nin : DRd K (r2 (NL.dNotIn K)) ninT := fun H xs ts c Q r e k => by
  unfold ninT at e
  split at e
  · split at e
    · rename_i q
      cases e
      obtain ⟨x, y, rfl, h1, h2⟩ := r.two
      exact (mem_sem h1 h2 q).2 (k _ H .refl (uni rfl))
    · cases e
  · cases e
theorem in_bl : ∀ ts c, inT ts = some c → ∃ b, c = .bl b := fun ts c e => by
  unfold inT at e
  split at e
  · split at e <;> cases e
    exact ⟨_, rfl⟩
  · cases e
theorem nin_bl : ∀ ts c, ninT ts = some c → ∃ b, c = .bl b := fun ts c e => by
  unfold ninT at e
  split at e
  · split at e <;> cases e
    exact ⟨_, rfl⟩
  · cases e
end
end NQ
namespace NQ
open PySem L2
section
variable {K : PySem.W.Frag} {G : Addr → Prop} {H : Hp}
theorem atI_len {α β : Type} {xs : List α} {ys : List β} (h : xs.length = ys.length) {i : Int} {y : β} (e : atI ys i = some y) : ∃ j : Nat, ys[j]? = some y ∧ atI xs i = xs[j]? := by
  unfold atI at e ⊢
  rw [h]
  cases q : ixN ys.length i with
  | none => rw [q] at e; cases e
  | some j => rw [q] at e; exact ⟨j, e, rfl⟩
/-! ### a[i] -/
def seqT : T → Option (List T)
  | .lst ts => some ts
  | .tup ts => some ts
  | .ctup ts => some ts
  | .clst ts => some ts
  | _ => none
def ixR : Op
  | [a, .int i] => match a with
    | .str z => if z.length ≤ sizeLine then (match atI z.cps.toList i with | some c => some (.str ⟨#[c]⟩) | none => none) else none
    | a => match seqT a with
      | some ts => match atI ts i with
        | some t => if t.isS then some t else none
        | none => none
      | none => none
  | _ => none
def ixD : Op
  | [.lst ts, .int i] => atI ts i
  | [.tup ts, .int i] => atI ts i
  | _ => none
theorem Rp.seq {x : V} {a : T} {ts : List T} (h : Rp K H x a) (e : seqT a = some ts) : ∃ p vs, x = .ref p ∧ (SqL K H p vs ∨ SqT K H p vs) ∧ RpL K H vs ts := by
  unfold seqT at e
  split at e <;> cases e
  · obtain ⟨p, vs, rfl, h1, h2⟩ := h.lst; exact ⟨p, vs, rfl, .inl h1, h2⟩
  · obtain ⟨p, vs, rfl, h1, h2⟩ := h.tup; exact ⟨p, vs, rfl, .inr h1, h2⟩
  · obtain ⟨p, vs, rfl, h1, h2, _⟩ := h.ctup; exact ⟨p, vs, rfl, .inr h1, h2⟩
  · obtain ⟨p, vs, rfl, h1, h2, _⟩ := h.clst; exact ⟨p, vs, rfl, .inl h1, h2⟩
theorem mem_atI {α : Type} {xs : List α} {i : Int} {c : α} (h : atI xs i = some c) : c ∈ xs := by
  unfold atI at h
  cases q : ixN xs.length i with
  | none => rw [q] at h; cases h
  | some j => rw [q] at h; exact List.mem_of_getElem? h
theorem sc_isS {v : V} {t : T} (h : Rp K H v t) (z : t.isS = true) : Sc K v t := by
  cases h with
  | sc h => exact h
  | nd c _ => cases t <;> first | exact c.elim | exact absurd z Bool.false_ne_true
theorem rd_ix : DRd K (r2 (NL.dIx K)) ixR := fun H xs ts c Q r e k => by
  unfold ixR at e
  split at e
  · rename_i a i
    obtain ⟨x, y, rfl, h1, h2⟩ := r.two
    cases h2.int
    split at e
    · split at e
      · rename_i z hz
        split at e
        · rename_i c' q
          cases e
          obtain ⟨rfl, s1⟩ := h1.str
          exact ⟨c', hz, q, k _ H .refl (uni ⟨rfl, sok_one (mem_atI q) s1⟩)⟩
        · cases e
      · cases e
    · split at e
      · rename_i ts' q
        split at e
        · rename_i t q2
          split at e
          · rename_i hs
            cases e
            obtain ⟨p, vs, rfl, k1, k2⟩ := h1.seq q
            obtain ⟨j, e1, e2⟩ := atI_len k2.length q2
            obtain ⟨v, e3, e4⟩ := k2.at e1
            exact ⟨vs, v, k1, by rw [e2, e3], k _ H .refl (uni (sc_isS e4 hs))⟩
          · cases e
        · cases e
      · cases e
  · cases e
theorem op_ix : DOp K (r2 (NL.dIx K)) ixD := fun G H xs ts c Q r e al k => by
  unfold ixD at e
  split at e
  · obtain ⟨x, y, rfl, h1, h2⟩ := r.two
    cases h2.rp.int
    obtain ⟨p, vs, rfl, k1, k2⟩ := h1.lst
    obtain ⟨j, e1, e2⟩ := atI_len k2.length e
    obtain ⟨v, e3, e4⟩ := k2.at e1
    exact ⟨vs, v, .inl (.inl k1), by rw [e2, e3], k _ H .refl e4⟩
  · obtain ⟨x, y, rfl, h1, h2⟩ := r.two
    cases h2.rp.int
    obtain ⟨p, vs, rfl, k1, k2⟩ := h1.tup
    obtain ⟨j, e1, e2⟩ := atI_len k2.length e
    obtain ⟨v, e3, e4⟩ := k2.at e1
    exact ⟨vs, v, .inr (SqT.of k1), by rw [e2, e3], k _ H .refl e4⟩
  · cases e
/-! ### dicts: d[k], k in d -/
def T.key : T → Option Key
  | .int i => some (.inl i)
  | .str s => some (.inr s)
  | _ => none
def keysT : List T → Option (List Key)
  | [] => some []
  | t :: r => match t.key, keysT r with
    | some k, some ks => some (k :: ks)
    | _, _ => none
/-- the value at the key k -/
def lookT {κ : Type} [DecidableEq κ] (ks : List κ) (ts : List T) (k : κ) : Option T := match ks, ts with
  | a :: ks, t :: ts => if a = k then some t else lookT ks ts k
  | _, _ => none
def dlook (d k : T) : Option (Option T) := match d with
  | .dic ks ts => match k.key with
    | some k => some (lookT ks ts k)
    | none => none
  | .dit ks ts => match k with
    | .tup us => match keysT us with
      | some k => some (lookT ks ts k)
      | none => none
    | _ => none
  | _ => none
theorem key_kV {x : V} {t : T} {k : Key} (h : Rp K H x t) (e : t.key = some k) : x = kV k := by
  cases t <;> first
    | (cases e; exact h.int)
    | (cases e; exact h.str.1)
    | cases e
theorem keys_kV : ∀ {ts : List T} {xs : List V} {ks : List Key}, RpL K H xs ts → keysT ts = some ks → xs = ks.map kV
  | [], _, _, h, e => by cases e; cases h; rfl
  | t :: r, _, _, h, e => by
    unfold keysT at e
    cases h with
    | cons h1 h2 =>
      split at e
      · rename_i k ks q1 q2
        cases e
        rw [key_kV h1 q1, keys_kV h2 q2]
        rfl
      · cases e
theorem look_val {κ : Type} [DecidableEq κ] : ∀ {ks : List κ} {ts : List T} {vs : List V} {k : κ}, DfL K G H vs ts → (lookT ks ts k = none → valV (ks.zip vs) k = none) ∧ ∀ t, lookT ks ts k = some t → ∃ v, valV (ks.zip vs) k = some v ∧ Df K G H v t
  | [], _, _, _, _ => ⟨fun _ => rfl, fun t e => by unfold lookT at e; cases e⟩
  | a :: ks, _, _, k, .nil => ⟨fun _ => rfl, fun t e => by unfold lookT at e; cases e⟩
  | a :: ks, t :: ts, v :: vs, k, .cons h r => by
    by_cases z : a = k
    · have e1 : lookT (a :: ks) (t :: ts) k = some t := by unfold lookT; rw [if_pos z]
      have e2 : valV ((a :: ks).zip (v :: vs)) k = some v := by unfold valV; simp [z]
      rw [e1]
      exact ⟨(fun q => by cases q), (fun u q => by cases q; exact ⟨v, e2, h⟩)⟩
    · have e1 : lookT (a :: ks) (t :: ts) k = lookT ks ts k := by rw [lookT, if_neg z]
      have e2 : valV ((a :: ks).zip (v :: vs)) k = valV (ks.zip vs) k := by unfold valV; simp [z]
      rw [e1, e2]
      exact look_val r
theorem look_rp {κ : Type} [DecidableEq κ] : ∀ {ks : List κ} {ts : List T} {vs : List V} {k : κ}, RpL K H vs ts → (lookT ks ts k = none → valV (ks.zip vs) k = none) ∧ ∀ t, lookT ks ts k = some t → ∃ v, valV (ks.zip vs) k = some v ∧ Rp K H v t
  | [], _, _, _, _ => ⟨fun _ => rfl, fun t e => by unfold lookT at e; cases e⟩
  | a :: ks, _, _, k, .nil => ⟨fun _ => rfl, fun t e => by unfold lookT at e; cases e⟩
  | a :: ks, t :: ts, v :: vs, k, .cons h r => by
    by_cases z : a = k
    · have e1 : lookT (a :: ks) (t :: ts) k = some t := by unfold lookT; rw [if_pos z]
      have e2 : valV ((a :: ks).zip (v :: vs)) k = some v := by unfold valV; simp [z]
      rw [e1]
      exact ⟨(fun q => by cases q), (fun u q => by cases q; exact ⟨v, e2, h⟩)⟩
    · have e1 : lookT (a :: ks) (t :: ts) k = lookT ks ts k := by rw [lookT, if_neg z]
      have e2 : valV ((a :: ks).zip (v :: vs)) k = valV (ks.zip vs) k := by unfold valV; simp [z]
      rw [e1, e2]
      exact look_rp r
theorem dget_rp {x y : V} {d k : T} {o : Option T} (h1 : Rp K H x d) (h2 : Rp K H y k) (e : dlook d k = some o) : ∃ a ov, x = .ref a ∧ DGet H a y ov ∧ (o = none → ov = none) ∧ ∀ t, o = some t → ∃ v, ov = some v ∧ Rp K H v t := by
  unfold dlook at e
  split at e
  · split at e
    · rename_i q
      cases e
      obtain ⟨a, vs, rfl, l, ha, r⟩ := h1.dic
      obtain ⟨k1, k2⟩ := look_rp (κ := Key) (ks := _) (k := _) r
      exact ⟨a, _, rfl, .inl ⟨_, _, .inl ha, key_kV h2 q, rfl⟩, k1, k2⟩
    · cases e
  · split at e
    · split at e
      · rename_i q
        cases e
        obtain ⟨a, vs, rfl, l, ha, r⟩ := h1.dit
        obtain ⟨k1, k2⟩ := look_rp (κ := List Key) (ks := _) (k := _) r
        cases h2 with
        | sc h => exact h.elim
        | nd c r2 =>
          have := keys_kV r2 q
          subst this
          exact ⟨a, _, rfl, .inr ⟨_, _, _, .inl ha, rfl, c, rfl⟩, k1, k2⟩
      · cases e
    · cases e
  · cases e
def dgetR : Op
  | [d, k] => match dlook d k with
    | some (some t) => if t.isS then some t else none
    | _ => none
  | _ => none
def dgetD : Op
  | [d, k] => match dlook d k with
    | some (some t) => some t
    | _ => none
  | _ => none
theorem rd_dget : DRd K (r2 rDGet) dgetR := fun H xs ts c Q r e k => by
  unfold dgetR at e
  split at e
  · split at e
    · rename_i q
      split at e
      · rename_i hs
        cases e
        obtain ⟨x, y, rfl, h1, h2⟩ := r.two
        obtain ⟨a, ov, rfl, dg, _, hv⟩ := dget_rp h1 h2 q
        obtain ⟨v, rfl, hv2⟩ := hv _ rfl
        exact ⟨a, v, rfl, dg, k _ H .refl (uni (sc_isS hv2 hs))⟩
      · cases e
    · cases e
  · cases e
theorem op_dget : DOp K (r2 rDGet) dgetD := fun G H xs ts c Q r e al k => by
  unfold dgetD at e
  split at e
  · split at e
    · rename_i d ky t q
      cases e
      obtain ⟨x, y, rfl, h1, h2⟩ := r.two
      unfold dlook at q
      split at q
      · split at q
        · rename_i kk q1
          have q2 := Option.some.inj q
          rcases h1 with h1 | ⟨a, vs, rfl, hc, hd⟩
          · exact h1.elim
          · obtain ⟨v, e1, e2⟩ := (look_val (ks := _) (k := kk) hd).2 _ q2
            exact ⟨a, v, rfl, .inl ⟨_, kk, .inl hc.2, key_kV h2.rp q1, e1.symm⟩, k _ H .refl e2⟩
        · cases q
      · split at q
        · split at q
          · rename_i kk q1
            have q2 := Option.some.inj q
            rcases h1 with h1 | ⟨a, vs, rfl, hc, hd⟩
            · exact h1.elim
            · obtain ⟨v, e1, e2⟩ := (look_val (ks := _) (k := kk) hd).2 _ q2
              rcases h2 with h2 | ⟨b, us, rfl, hc2, hd2⟩
              · exact h2.elim
              · have := keys_kV hd2.rp q1
                subst this
                exact ⟨a, v, rfl, .inr ⟨_, kk, b, .inl hc.2, rfl, hc2, e1.symm⟩, k _ H .refl e2⟩
          · cases q
        · cases q
      · cases q
    · cases e
  · cases e
def rDIn : R2 := fun y x H Q => ∃ a o, x = .ref a ∧ DGet H a y o ∧ Q (.bl o.isSome) H
def rDNin : R2 := fun y x H Q => ∃ a o, x = .ref a ∧ DGet H a y o ∧ Q (.bl (!o.isSome)) H
def dinT : Op
  | [k, d] => match dlook d k with | some o => some (.bl o.isSome) | none => none
  | _ => none
def dninT : Op
  | [k, d] => match dlook d k with | some o => some (.bl (!o.isSome)) | none => none
  | _ => none
theorem rd_din : DRd K (r2 rDIn) dinT := fun H xs ts c Q r e k => by
  unfold dinT at e
  split at e
  · split at e
    · rename_i o q
      cases e
      obtain ⟨x, y, rfl, h1, h2⟩ := r.two
      obtain ⟨a, ov, rfl, dg, h3, h4⟩ := dget_rp h2 h1 q
      have ee : ov.isSome = o.isSome := by
        cases o with
        | none => rw [h3 rfl]; rfl
        | some t => obtain ⟨v, rfl, _⟩ := h4 t rfl; rfl
      exact ⟨a, ov, rfl, dg, by rw [ee]; exact k _ H .refl (uni rfl)⟩
    · cases e
  · cases e
theorem rd_dnin : DRd K (r2 rDNin) dninT := fun H xs ts c Q r e k => by
  unfold dninT at e
  split at e
  · split at e
    · rename_i o q
      cases e
      obtain ⟨x, y, rfl, h1, h2⟩ := r.two
      obtain ⟨a, ov, rfl, dg, h3, h4⟩ := dget_rp h2 h1 q
      have ee : ov.isSome = o.isSome := by
        cases o with
        | none => rw [h3 rfl]; rfl
        | some t => obtain ⟨v, rfl, _⟩ := h4 t rfl; rfl
      exact ⟨a, ov, rfl, dg, by rw [ee]; exact k _ H .refl (uni rfl)⟩
    · cases e
  · cases e
theorem din_bl : ∀ ts c, dinT ts = some c → ∃ b, c = .bl b := fun ts c e => by
  unfold dinT at e
  split at e
  · split at e <;> cases e
    exact ⟨_, rfl⟩
  · cases e
theorem dnin_bl : ∀ ts c, dninT ts = some c → ∃ b, c = .bl b := fun ts c e => by
  unfold dninT at e
  split at e
  · split at e <;> cases e
    exact ⟨_, rfl⟩
  · cases e
/-! ### calls -/
def lenT : Op
  | [.str z] => if z.length ≤ sizeLine then some (.int z.length) else none
  | [a] => match seqT a with | some ts => some (.int ts.length) | none => none
  | _ => none
theorem rd_len : DRd K (NL.dLen K) lenT := fun H xs ts c Q r e k => by
  unfold lenT at e
  split at e
  · split at e
    · rename_i z
      cases e
      obtain ⟨x, rfl, h1⟩ := r.one
      obtain ⟨rfl, _⟩ := h1.str
      exact ⟨z, k _ H .refl (uni rfl)⟩
    · cases e
  · split at e
    · rename_i q
      cases e
      obtain ⟨x, rfl, h1⟩ := r.one
      obtain ⟨p, vs, rfl, k1, k2⟩ := h1.seq q
      exact ⟨vs, k1, by rw [k2.length]; exact k _ H .refl (uni rfl)⟩
    · cases e
  · cases e
def intT : Op
  | [.int i] => some (.int i)
  | [.bl b] => some (.int (if b then 1 else 0))
  | [.str a] => match PySem.intText? a with
    | some n => if a.length ≤ 640 then some (.int n) else none
    | none => none
  | _ => none
theorem rd_int : DRd K NL.dInt intT := fun H xs ts c Q r e k => by
  unfold intT at e
  split at e
  · cases e
    obtain ⟨x, rfl, h1⟩ := r.one
    cases h1.int
    exact k _ H .refl (uni rfl)
  · cases e
    obtain ⟨x, rfl, h1⟩ := r.one
    cases h1.bl
    exact k _ H .refl (uni rfl)
  · split at e
    · rename_i n q
      split at e
      · rename_i z
        cases e
        obtain ⟨x, rfl, h1⟩ := r.one
        obtain ⟨rfl, _⟩ := h1.str
        exact ⟨n, q, z, k _ H .refl (uni rfl)⟩
      · cases e
    · cases e
  · cases e
def strT : Op
  | [.int i] => if i.natAbs.log2 < 1920 then some (.str (toString i)) else none
  | [.str a] => some (.str a)
  | _ => none
theorem rd_str : DRd K NL.dStr strT := fun H xs ts c Q r e k => by
  unfold strT at e
  split at e
  · split at e
    · rename_i z
      cases e
      obtain ⟨x, rfl, h1⟩ := r.one
      cases h1.int
      exact ⟨z, k _ H .refl (uni ⟨rfl, sok_int _⟩)⟩
    · cases e
  · cases e
    obtain ⟨x, rfl, h1⟩ := r.one
    obtain ⟨rfl, s1⟩ := h1.str
    exact k _ H .refl (uni ⟨rfl, s1⟩)
  · cases e
def absT : Op
  | [.int i] => some (.int (if i < 0 then -i else i))
  | _ => none
theorem rd_abs : DRd K NL.dAbs absT := fun H xs ts c Q r e k => by
  unfold absT at e
  split at e
  · cases e
    obtain ⟨x, rfl, h1⟩ := r.one
    cases h1.int
    exact k _ H .refl (uni rfl)
  · cases e
def maxT : Op
  | [.int i, .int j] => some (.int (if j > i then j else i))
  | _ => none
theorem rd_max : DRd K NL.dMax maxT := fun H xs ts c Q r e k => by
  unfold maxT at e
  split at e
  · cases e
    obtain ⟨x, y, rfl, h1, h2⟩ := r.two
    cases h1.int; cases h2.int
    exact k _ H .refl (uni rfl)
  · cases e
def minT : Op
  | [.int i, .int j] => some (.int (if j < i then j else i))
  | _ => none
theorem rd_min : DRd K NL.dMin minT := fun H xs ts c Q r e k => by
  unfold minT at e
  split at e
  · cases e
    obtain ⟨x, y, rfl, h1, h2⟩ := r.two
    cases h1.int; cases h2.int
    exact k _ H .refl (uni rfl)
  · cases e
/-! ### new lists, tuples -/
theorem newL {H : Hp} {vs : List V} {ts : List T} {Q : VK} (al : ∀ a, G a → H a ≠ none) (d : DfL K G H vs ts) (k : ∀ p vs H', H p = none → EdP noA H H' → Cell K H' p (.lst ts) vs → DfL K (fun a => a = p ∨ G a) H' vs ts → Q (.ref p) H') : ∀ p, H p = none → Q (.ref p) (upd H p (.lst vs)) :=
  fun p hp => k p vs _ hp (EdP.new hp) upd_same (d.step (U := noA) (EdP.new hp) (fun _ z => z.elim) fun a z => z.elim (fun w => .inr (by rw [w]; exact hp)) .inl)
theorem newT {H : Hp} {vs : List V} {ts : List T} {Q : VK} (al : ∀ a, G a → H a ≠ none) (d : DfL K G H vs ts) (k : ∀ z H', EdP noA H H' → Df K G H' z (.tup ts) → Q z H') : ∀ p, H p = none → Q (.ref p) (upd H p (.tup vs)) :=
  fun p hp => k _ _ (EdP.new hp) (.nd (fun z => al p z hp) upd_same (d.ed0 (EdP.new hp)))
theorem Vw.seq {x : V} {a : T} {ts : List T} (h : Vw K G H x a) (e : seqT a = some ts) : ∃ p vs, x = .ref p ∧ (SqL K H p vs ∨ SqT K H p vs) ∧ DfL K G H vs ts := by
  unfold seqT at e
  split at e <;> cases e
  · obtain ⟨p, vs, rfl, h1, h2⟩ := h.lst; exact ⟨p, vs, rfl, .inl (.inl h1), h2⟩
  · obtain ⟨p, vs, rfl, h1, h2⟩ := h.tup; exact ⟨p, vs, rfl, .inr (SqT.of h1), h2⟩
  · obtain ⟨p, vs, rfl, h1, h2, h3⟩ := h.rp.ctup
    have := h2.svs h3
    subst this
    exact ⟨p, _, rfl, .inr h1, DfL.sv h3⟩
  · obtain ⟨p, vs, rfl, h1, h2, h3⟩ := h.rp.clst
    have := h2.svs h3
    subst this
    exact ⟨p, _, rfl, .inl h1, DfL.sv h3⟩
def listT : Op
  | [a] => match seqT a with | some ts => some (.lst ts) | none => none
  | _ => none
theorem nw_list : DNew K (NL.dList K) listT := fun G H xs ts c Q r e al k => by
  unfold listT at e
  split at e
  · split at e
    · rename_i q
      cases e
      obtain ⟨x, rfl, h1⟩ := r.one
      obtain ⟨p, vs, rfl, k1, k2⟩ := h1.seq q
      exact ⟨vs, k1, newL al k2 k⟩
    · cases e
  · cases e
theorem list_kids : ∀ ts c, listT ts = some c → (Sh.all .fz).kids c = some (c.kids.map fun _ => .fz) := fun ts c e => by
  unfold listT at e
  split at e
  · split at e <;> cases e
    rfl
  · cases e
/-- list(text) -/
def listS : Op
  | [.str z] => if z.length ≤ sizeLine then some (.lst ((NL.sgn z).map T.str)) else none
  | _ => none
theorem sgn_df {z : Str} (h : PyData.strOk z = true) : DfL K G H ((NL.sgn z).map V.str) ((NL.sgn z).map T.str) := by
  have key : ∀ l : List Nat, (∀ c ∈ l, c ∈ z.cps.toList) → DfL K G H ((l.map fun c => (⟨#[c]⟩ : Str)).map V.str) ((l.map fun c => (⟨#[c]⟩ : Str)).map T.str) := by
    intro l
    induction l with
    | nil => intro _; exact .nil
    | cons c r ih =>
      intro hl
      exact .cons (.sc ⟨rfl, sok_one (hl c (List.mem_cons_self ..)) h⟩) (ih fun d hd => hl d (List.mem_cons_of_mem _ hd))
  exact key _ fun c h => h
theorem nw_listS : DNew K NL.dListS listS := fun G H xs ts c Q r e al k => by
  unfold listS at e
  split at e
  · split at e
    · rename_i z
      cases e
      obtain ⟨x, rfl, h1⟩ := r.one
      obtain ⟨rfl, s1⟩ := h1.rp.str
      exact ⟨_, rfl, z, newL al (sgn_df s1) k⟩
    · cases e
  · cases e
theorem listS_kids : ∀ ts c, listS ts = some c → (Sh.all .fz).kids c = some (c.kids.map fun _ => .fz) := fun ts c e => by
  unfold listS at e
  split at e
  · split at e <;> cases e
    rfl
  · cases e
def tupleL : Op
  | [.lst ts] => some (.tup ts)
  | _ => none
theorem op_tuple : DOp K (NL.dTuple K) tupleL := fun G H xs ts c Q r e al k => by
  unfold tupleL at e
  split at e
  · cases e
    obtain ⟨x, rfl, h1⟩ := r.one
    obtain ⟨p, vs, rfl, k1, k2⟩ := h1.lst
    exact ⟨p, vs, rfl, .inl ⟨.inl k1, newT al k2 k⟩⟩
  · cases e
def addL : Op
  | [.lst xs, .lst ys] => if xs.length + ys.length ≤ sizeLine then some (.lst (xs ++ ys)) else none
  | _ => none
end
end NQ
namespace NQ
open PySem L2
/-! ### operands that are looked at as they come -/
abbrev PV := V → Hp → Prop
def tAllC : List PV → List TE → TA
  | [], ts => tAll ts
  | P :: Ps, t :: ts => fun σ H Q => t σ H fun x H1 => P x H1 ∧ tAllC Ps ts σ H1 fun xs H2 => Q (x :: xs) H2
  | _ :: _, [] => tNil
/-- what is wanted may be weakened -/
def MonoE (t : TE) : Prop := ∀ (σ : L2.St) (H : Hp) (Q Q' : VK), (∀ x H', Q x H' → Q' x H') → t σ H Q → t σ H Q'
def ConC (X : Cx) (e : Expr) (es : List Expr) (Ps : List PV) (r : RV) : Prop := ∀ ts, PEs X es ts → (∀ t ∈ ts, MonoE t) → PE X e fun σ H Q => tAllC Ps ts σ H fun xs H' => r xs H' Q
inductive ChkL (K : PySem.W.Frag) : List PV → List T → Prop
  | nil {ts : List T} : ChkL K [] ts
  | cons {P : PV} {Ps : List PV} {t : T} {ts : List T} : (∀ H x, Rp K H x t → P x H) → ChkL K Ps ts → ChkL K (P :: Ps) (t :: ts)
abbrev Chk (K : PySem.W.Frag) (Ps : List PV) (op : Op) : Prop := ∀ ts c, op ts = some c → ChkL K Ps ts
inductive CoC (X : Cx) (K : PySem.W.Frag) (e : Expr) (es : List Expr) : Op → Prop
  | one {Ps : List PV} {r : RV} {op : Op} : ConC X e es Ps r → DOp K r op → Chk K Ps op → CoC X K e es op
  | alt {f g : Op} : CoC X K e es f → CoC X K e es g → CoC X K e es (altT f g)
inductive CoCR (X : Cx) (K : PySem.W.Frag) (e : Expr) (es : List Expr) : Op → Prop
  | one {Ps : List PV} {r : RV} {op : Op} : ConC X e es Ps r → DRd K r op → Chk K Ps op → CoCR X K e es op
  | alt {f g : Op} : CoCR X K e es f → CoCR X K e es g → CoCR X K e es (altT f g)
theorem CoCR.co {X : Cx} {K : PySem.W.Frag} {e : Expr} {es : List Expr} {op : Op} (h : CoCR X K e es op) : CoC X K e es op := by
  induction h with
  | one c d k => exact .one c d.op k
  | alt _ _ h1 h2 => exact .alt h1 h2
inductive CoCN (X : Cx) (K : PySem.W.Frag) (e : Expr) (es : List Expr) : Op → Prop
  | one {Ps : List PV} {r : RV} {op : Op} : ConC X e es Ps r → DNew K r op → (∀ ts c, op ts = some c → (Sh.all .fz).kids c = some (c.kids.map fun _ => .fz)) → Chk K Ps op → CoCN X K e es op
theorem TQ.mono {K : PySem.W.Frag} {sh : Nat → Sh} {m : Md} {f : Qf} : MonoE (TQ K sh m f) := fun σ H Q Q' i ⟨W, Y, Fm, δ, t, f, e, k⟩ => ⟨W, Y, Fm, δ, t, f, e, fun x H' ed r => i _ _ (k x H' ed r)⟩
theorem Kf.mono {K : PySem.W.Frag} {sh : Nat → Sh} {Wx : WX} {W : Addr → Prop} {Y : List Addr} {Fm : Nat → List Addr} {σ : L2.St} {H : Hp} {r : Rs} {Q Q' : VK} (i : ∀ x H', Q x H' → Q' x H') (h : Kf K sh Wx W Y Fm σ H r Q) : Kf K sh Wx W Y Fm σ H r Q' := by
  unfold Kf at h ⊢
  split at h
  · exact h
  · exact fun x H' Fm' f k d => i _ _ (h x H' Fm' f k d)
  · exact h
theorem TF.mono {K : PySem.W.Frag} {sh : Nat → Sh} {Wx : WX} {f : Dl → Rs} : MonoE (TF K sh Wx f) := fun σ H Q Q' i ⟨W, Y, Fm, δ, f, k⟩ => ⟨W, Y, Fm, δ, f, k.mono i⟩
theorem TO.mono {K : PySem.W.Frag} {sh : Nat → Sh} {Wx : WX} : ∀ {o : Opd}, MonoE (TO K sh Wx o)
  | .var i => fun σ H Q Q' i ⟨v, e, h⟩ => ⟨v, e, i _ _ h⟩
  | .val f => TF.mono
theorem TQs.mono {K : PySem.W.Frag} {sh : Nat → Sh} {l : List (Md × Qf)} : ∀ t ∈ l.map fun p => TQ K sh p.1 p.2, MonoE t := fun t ht => by
  obtain ⟨p, _, rfl⟩ := List.mem_map.mp ht
  exact TQ.mono
theorem TOs.mono {K : PySem.W.Frag} {sh : Nat → Sh} {Wx : WX} {os : List Opd} : ∀ t ∈ os.map (TO K sh Wx), MonoE t := fun t ht => by
  obtain ⟨p, _, rfl⟩ := List.mem_map.mp ht
  exact TO.mono
theorem PEs.len {X : Cx} : ∀ {es : List Expr} {ts : List TE}, PEs X es ts → ts.length = es.length
  | _, _, .nil => rfl
  | _, _, .cons _ r _ => by rw [List.length_cons, List.length_cons, PEs.len r]
section
variable {K : PySem.W.Frag} {sh : Nat → Sh} {Wx : WX} {W : Addr → Prop} {Y : List Addr} {Fm Fm1 : Nat → List Addr} {H H' H1 : Hp} {σ : L2.St} {δ : Dl} {Q : VK}
theorem qargsC : ∀ {l : List (Md × Qf)} {Ps : List PV} {H : Hp} {ts : List T} {Q : List V → Hp → Prop}, Fr K sh W Y Fm H σ δ → evq (l.map Prod.snd) δ = some ts → ChkL K Ps ts → (∀ xs H', EdP noA H H' → RmL K Y Fm W H' (l.map Prod.fst) xs ts → Q xs H') → tAllC Ps (l.map fun p => TQ K sh p.1 p.2) σ H Q
  | l, [], H, ts, Q, f, e, c, k => qargs f e k
  | [], P :: Ps, H, ts, Q, f, e, c, k => by cases e; cases c
  | (m, g) :: r, P :: Ps, H, ts, Q, f, e, c, k => by
    simp only [List.map_cons] at e ⊢
    unfold evq at e
    cases d : g δ with
    | none => simp only [d] at e; cases e
    | some t =>
      simp only [d] at e
      cases q : evq (r.map Prod.snd) δ with
      | none => simp only [q] at e; cases e
      | some us =>
        simp only [q] at e
        cases e
        cases c with
        | cons c1 c2 =>
          refine ⟨W, Y, Fm, δ, t, f, d, fun x H1 e1 h1 => ⟨c1 H1 x h1.rp, ?_⟩⟩
          refine qargsC (f.ed0 e1) q c2 fun xs H2 e2 h2 => ?_
          exact k _ H2 (e1.tr e2 fun _ z => z.elim) (.cons (h1.ed0 e2) h2)
/-- operands, none of them a variable of one's own, none that raises -/
theorem args_okC : ∀ {os : List Opd} {Ps : List PV} {H : Hp} {δ : Dl} {Fm : Nat → List Addr} {Q : List V → Hp → Prop}, vals os = true → Fr K sh W Y Fm H σ δ → (∀ l δ' ts, runs os δ = some (.ok l, δ') → res l δ' = some ts → ChkL K Ps ts) → (∀ er δ', runs os δ = some (.error er, δ') → False) → Ka K sh Wx W Y Fm σ H (runs os δ) Q → tAllC Ps (os.map (TO K sh Wx)) σ H Q
  | os, [], H, δ, Fm, Q, _, f, hc, _, h => by
    show tAll (os.map (TO K sh Wx)) σ H Q
    rw [TOs_all]
    exact args_ok f h
  | [], P :: Ps, H, δ, Fm, Q, _, f, hc, _, h => by
    have := hc [] δ [] rfl rfl
    cases this
  | .var i :: r, P :: Ps, H, δ, Fm, Q, hv, f, hc, _, h => by cases hv
  | .val g :: r, P :: Ps, H, δ, Fm, Q, hv, f, hc, hne, h => by
    unfold runs at h
    simp only [List.map_cons]
    cases d : g δ with
    | none => rw [d] at h; exact h.elim
    | some p =>
      obtain ⟨p, δ1⟩ := p
      cases p with
      | error er => exact (hne er δ1 (by unfold runs; simp only [d])).elim
      | ok t =>
        simp only [d] at h
        cases e : runs r δ1 with
        | none => simp only [e] at h; exact h.elim
        | some p =>
          obtain ⟨p, δ'⟩ := p
          cases p with
          | error er => exact (hne er δ' (by unfold runs; simp only [d, e])).elim
          | ok l =>
            simp only [e] at h
            obtain ⟨⟨ts, hr⟩, h⟩ := h
            have c := hc (.inr t :: l) δ' ts (by unfold runs; simp only [d, e]) hr
            unfold res at hr
            split at hr
            · rename_i us q
              cases hr
              cases c with
              | cons c1 c2 =>
                refine ⟨W, Y, Fm, δ, f, ?_⟩
                simp only [d]
                intro x H1 Fm1 f1 x1 d1
                refine ⟨c1 H1 x d1.rp, ?_⟩
                refine args_okC (os := r) (δ := δ1) hv f1 (fun l2 δ2 ts2 q1 q2 => ?_) (fun er δ2 q1 => by rw [e] at q1; cases q1) ?_
                · rw [e] at q1
                  cases q1
                  rw [q] at q2
                  cases q2
                  exact c2
                · rw [e]
                  exact ⟨⟨us, q⟩, fun xs H' Fm' f' x' a' => h _ H' Fm' f' (x1.tr x') (.val (d1.xt x') a')⟩
            · cases hr
end
/-- as opn, where no operand raises -/
def opnc (op : Op) (os : List Opd) : Dl → Rs := fun δ => match runs os δ with
  | some (.ok l, δ') => match res l δ' with
    | none => none
    | some ts => match op ts with
      | none => none
      | some c => some (.ok c, δ')
  | _ => none
section
variable {X : Cx} {K : PySem.W.Frag} {sh : Nat → Sh} {Wx : WX} {e : Expr} {es : List Expr} {op : Op} {l : List (Md × Qf)} {os : List Opd}
theorem m_qc (c : CoC X K e es op) (hs : PEs X es (l.map fun p => TQ K sh p.1 p.2)) (hm : chL (l.map Prod.fst) = true := by rfl) : PE X e (TQ K sh .fz (opq op (l.map Prod.snd))) := by
  induction c with
  | one c d ck =>
    refine pe_imp (c _ hs (by first | exact TQs.mono | exact TOs.mono)) fun σ H Q h => ?_
    obtain ⟨W, Y, Fm, δ, ts, c, fr, e1, e2, k⟩ := h.sem (g := fun _ => none)
    exact qargsC fr e1 (ck ts c e2) fun xs H' ed r => d (Gw Y Fm W) H' xs ts c Q (r.ch hm) e2 (fr.ed0 ed).al fun z H2 ed2 dz => k z H2 (ed.tr ed2 fun _ z => z.elim) dz
  | alt _ _ h1 h2 => exact pe_imp (pe_or h1 h2) fun σ H Q h => alt_q h
theorem m_qcr (c : CoCR X K e es op) (hs : PEs X es (l.map fun p => TQ K sh p.1 p.2)) : PE X e (TQ K sh .fz (opq op (l.map Prod.snd))) := by
  induction c with
  | one c d ck =>
    refine pe_imp (c _ hs (by first | exact TQs.mono | exact TOs.mono)) fun σ H Q h => ?_
    obtain ⟨W, Y, Fm, δ, ts, c, fr, e1, e2, k⟩ := h.sem (g := fun _ => none)
    exact qargsC fr e1 (ck ts c e2) fun xs H' ed r => d H' xs ts c Q r.rp e2 fun z H2 ed2 dz => k z H2 (ed.tr ed2 fun _ z => z.elim) (dz _ (fr.ed0 ed).al)
  | alt _ _ h1 h2 => exact pe_imp (pe_or h1 h2) fun σ H Q h => alt_q h
theorem m_qcv (c : CoC X K e es op) (hs : PEs X es (l.map fun p => TQ K sh p.1 p.2)) (hm : vwL (l.map Prod.fst) = true := by rfl) : PE X e (TQ K sh .vw (opq op (l.map Prod.snd))) := by
  induction c with
  | one c d ck =>
    refine pe_imp (c _ hs (by first | exact TQs.mono | exact TOs.mono)) fun σ H Q h => ?_
    obtain ⟨W, Y, Fm, δ, ts, c, fr, e1, e2, k⟩ := h.sem (g := fun _ => none)
    exact qargsC fr e1 (ck ts c e2) fun xs H' ed r => d (Gm Y Fm) H' xs ts c Q (r.vw hm) e2 (fr.ed0 ed).alm fun z H2 ed2 dz => k z H2 (ed.tr ed2 fun _ z => z.elim) dz
  | alt _ _ h1 h2 => exact pe_imp (pe_or h1 h2) fun σ H Q h => alt_q h

theorem opnc_sem {δ : Dl} {C : Rs → Prop} (hn : ¬ C none) (h : C (opnc op os δ)) : ∃ l δ' ts c, runs os δ = some (.ok l, δ') ∧ res l δ' = some ts ∧ op ts = some c ∧ C (some (.ok c, δ')) := by
  unfold opnc at h
  cases e : runs os δ with
  | none => simp only [e] at h; exact absurd h hn
  | some p =>
    obtain ⟨p, δ'⟩ := p
    cases p with
    | error er => simp only [e] at h; exact absurd h hn
    | ok l =>
      simp only [e] at h
      cases q : res l δ' with
      | none => simp only [q] at h; exact absurd h hn
      | some ts =>
        simp only [q] at h
        cases o : op ts with
        | none => simp only [o] at h; exact absurd h hn
        | some c => simp only [o] at h; exact ⟨l, δ', ts, c, rfl, q, o, h⟩
theorem m_ec (c : CoC X K e es op) (hs : PEs X es (os.map (TO K sh Wx))) (hf : vals os = true := by rfl) : PE X e (TF K sh Wx (opnc op os)) := by
  induction c with
  | one c d ck =>
    refine pe_imp (c _ hs (by first | exact TQs.mono | exact TOs.mono)) fun σ H Q h => ?_
    obtain ⟨W, Y, Fm, δ, fr, h⟩ := h
    obtain ⟨l, δ', ts, c, e1, e2, e3, h⟩ := opnc_sem (C := fun r => Kf K sh Wx W Y Fm σ H r Q) (fun z => z) h
    refine args_okC hf fr (fun l2 δ2 ts2 q1 q2 => ?_) (fun er δ2 q1 => by rw [e1] at q1; cases q1) ?_
    · rw [e1] at q1
      cases q1
      rw [e2] at q2
      cases q2
      exact ck ts c e3
    · rw [e1]
      refine ⟨⟨ts, e2⟩, fun xs H' Fm' f' x' a' => ?_⟩
      refine d (Gw Y Fm' W) H' xs ts c Q (a'.vw f' (fun i hi => by rw [runs_vals hf e1] at hi; exact absurd hi List.not_mem_nil) e2) e3 f'.al fun z H2 ed2 dz => h z H2 Fm' (f'.ed0 ed2) (x'.ed0 ed2) dz
  | alt _ _ h1 h2 =>
    rename_i f g _ _
    refine pe_imp (pe_or h1 h2) fun σ H Q h => ?_
    obtain ⟨W, Y, Fm, δ, fr, h⟩ := h
    obtain ⟨l, δ', ts, c, e1, e2, e3, h⟩ := opnc_sem (C := fun r => Kf K sh Wx W Y Fm σ H r Q) (fun z => z) h
    unfold altT at e3
    cases q : f ts with
    | some d =>
      simp only [q] at e3
      cases e3
      exact .inl ⟨W, Y, Fm, δ, fr, by unfold opnc; simp only [e1, e2, q]; exact h⟩
    | none =>
      simp only [q] at e3
      exact .inr ⟨W, Y, Fm, δ, fr, by unfold opnc; simp only [e1, e2, e3]; exact h⟩
theorem m_nc (c : CoCN X K e es op) (hs : PEs X es (os.map (TO K sh Wx))) (hf : vals os = true := by rfl) : PE X e (TN K sh (.all .fz) Wx (opnc op os)) := by
  cases c with
  | one c d hk ck =>
    refine pe_imp (c _ hs (by first | exact TQs.mono | exact TOs.mono)) fun σ H Q h => ?_
    obtain ⟨W, Y, Fm, δ, fr, h⟩ := h
    obtain ⟨l, δ', ts, c, e1, e2, e3, h⟩ := opnc_sem (C := fun r => Kn K sh (.all .fz) Wx W Y Fm σ H r Q) (fun z => z) h
    refine args_okC hf fr (fun l2 δ2 ts2 q1 q2 => ?_) (fun er δ2 q1 => by rw [e1] at q1; cases q1) ?_
    · rw [e1] at q1
      cases q1
      rw [e2] at q2
      cases q2
      exact ck ts c e3
    · rw [e1]
      refine ⟨⟨ts, e2⟩, fun xs H' Fm' f' x' a' => ?_⟩
      refine d (Gw Y Fm' W) H' xs ts c Q (a'.vw f' (fun i hi => by rw [runs_vals hf e1] at hi; exact absurd hi List.not_mem_nil) e2) e3 f'.al fun p vs H2 hp ed2 ce df => ?_
      refine h (.ref p) H2 Fm' [p] (f'.hold hp ed2 ce.r.alive) ?_ ⟨x'.1.tr ed2 (fun _ z => z.elim), fun a z => ?_⟩
      · refine Ow.nd ce (hk ts c e3) ?_
        refine DfL.ow (df.weak fun a z => ?_)
        rcases z with (z | z) | z
        · rcases List.mem_append.mp z with z | z
          · exact .inl (List.mem_singleton.mp z)
          · exact .inr (.inl (.inl z))
        · exact .inr (.inl (.inr z))
        · exact .inr (.inr z)
      · rcases z with z | z
        · exact .inr (x'.1.free (by rw [List.mem_singleton.mp z]; exact hp))
        · exact x'.2 a z
end
/-! ### methods of built-in types; parts -/
section
variable {X : Cx} {K : PySem.W.Frag} {a lo hi : Expr} {pos p2 : Pos}
theorem con_bm {T : String} {name : Str} {id : String} {r : V → List V → Hp → VK → Prop} {o e : Expr} {es : List Expr} {apos cpos : Pos} (K : PySem.W.Frag) (pa : PlainAttrs T) (slot : Slot T name id) (hty : typeOf (.builtin id) = pure (.type "method_descriptor")) (hm : MtR X id r)
    (hbase : attributeBase o name X.env (eval o X.env) = eval o X.env := by rfl)
    (hfew : ((backTo cpos (starEach (e :: es) X.env)).all (fun x => !x.1) && (backToKw cpos (keywordEach [] X.env)).all (fun x => x.1.isSome)
      && decide ((e :: es).length + ([] : List Keyword).length + (if ([] : List Keyword).isEmpty then 0 else 1) < 30)) = true := by rfl)
    (hline : (apos.endLine == cpos.line) = true := by rfl) (hplain : (backTo cpos (starEach es X.env)).any (·.1) = false := by rfl) (h : X.K = K := by rfl) :
    ConC X (.Call (.Attribute o name apos) (e :: es) [] cpos) (o :: e :: es) [tyV K T] (fun xs H Q => match xs with | x :: xs => r x xs H Q | [] => False) := fun ts hs _ => by
  subst h
  cases hs with
  | cons h1 h2 s1 =>
    have pa2 := h2.pa
    cases h2 with
    | cons h2 h3 s2 => exact pe_bm pa slot hty hm h1 pa2 hbase hfew hline s2 hplain
theorem con_bm0 {T : String} {name : Str} {id : String} {r : V → List V → Hp → VK → Prop} {o : Expr} {apos cpos : Pos} (K : PySem.W.Frag) (pa : PlainAttrs T) (slot : Slot T name id) (hty : typeOf (.builtin id) = pure (.type "method_descriptor")) (hm : MtR X id r)
    (hbase : attributeBase o name X.env (eval o X.env) = eval o X.env := by rfl) (hline : (apos.endLine == cpos.line) = true := by rfl) (h : X.K = K := by rfl) :
    ConC X (.Call (.Attribute o name apos) [] [] cpos) [o] [tyV K T] (fun xs H Q => match xs with | [x] => r x [] H Q | _ => False) := fun ts hs _ => by
  subst h
  cases hs with
  | cons h1 h2 s1 =>
    cases h2
    exact pe_bm0 pa slot hty hm h1 hbase hline
def isI : PV := fun x _ => ∃ i, x = .int i
def anyV : PV := fun _ _ => True
def rSl (r : V → Option Int → Option Int → Hp → VK → Prop) (b1 b2 : Bool) : RV := fun xs H Q => match b1, b2, xs with
  | true, true, [x, y, z] => ∃ i, y = .int i ∧ ∃ j, z = .int j ∧ r x (some i) (some j) H Q
  | true, false, [x, y] => ∃ i, y = .int i ∧ r x (some i) none H Q
  | false, true, [x, z] => ∃ j, z = .int j ∧ r x none (some j) H Q
  | false, false, [x] => r x none none H Q
  | _, _, _ => False
variable {r : V → Option Int → Option Int → Hp → VK → Prop}
theorem con_sl3 (hr : SlR X r) : ConC X (.Subscript a (.Slice (some lo) (some hi) none p2) pos) [a, lo, hi] [anyV, isI, isI] (rSl r true true) := fun ts hs mo => by
  cases hs with
  | cons h1 hs s1 =>
    cases hs with
    | cons h2 hs s2 =>
      cases hs with
      | cons h3 hs s3 =>
        cases hs
        rename_i t1 t2 t3
        refine pe_imp (pe_slice hr h1 (po_some h2) (po_some h3)) fun σ H Q h => ?_
        refine mo t1 (by simp) σ H _ _ (fun x H1 q => ?_) h
        refine mo t2 (by simp) σ H1 _ _ (fun y H2 q => ?_) q.2
        obtain ⟨⟨i, rfl⟩, q⟩ := q
        refine ⟨i, rfl, mo t3 (by simp) σ H2 _ _ (fun z H3 q => ?_) q⟩
        obtain ⟨⟨j, rfl⟩, q⟩ := q
        obtain ⟨i', e1, j', e2, q⟩ := q
        cases e1; cases e2
        exact ⟨j, rfl, q⟩
theorem con_sl1 (hr : SlR X r) : ConC X (.Subscript a (.Slice (some lo) none none p2) pos) [a, lo] [anyV, isI] (rSl r true false) := fun ts hs mo => by
  cases hs with
  | cons h1 hs s1 =>
    cases hs with
    | cons h2 hs s2 =>
      cases hs
      rename_i t1 t2
      refine pe_imp (pe_slice hr h1 (po_some h2) po_none) fun σ H Q h => ?_
      refine mo t1 (by simp) σ H _ _ (fun x H1 q => ?_) h
      refine mo t2 (by simp) σ H1 _ _ (fun y H2 q => ?_) q.2
      obtain ⟨⟨i, rfl⟩, i', e1, q⟩ := q
      cases e1
      exact ⟨i, rfl, q⟩
theorem con_sl2 (hr : SlR X r) : ConC X (.Subscript a (.Slice none (some hi) none p2) pos) [a, hi] [anyV, isI] (rSl r false true) := fun ts hs mo => by
  cases hs with
  | cons h1 hs s1 =>
    cases hs with
    | cons h2 hs s2 =>
      cases hs
      rename_i t1 t2
      refine pe_imp (pe_slice hr h1 po_none (po_some h2)) fun σ H Q h => ?_
      refine mo t1 (by simp) σ H _ _ (fun x H1 q => ?_) h
      refine mo t2 (by simp) σ H1 _ _ (fun y H2 q => ?_) q.2
      obtain ⟨⟨i, rfl⟩, i', e1, q⟩ := q
      cases e1
      exact ⟨i, rfl, q⟩
/-- the parts lo, hi behind the thing -/
def partsT (b1 b2 : Bool) : List T → Option (T × Option Int × Option Int)
  | [a, .int i, .int j] => if b1 && b2 then some (a, some i, some j) else none
  | [a, .int i] => if b1 && !b2 then some (a, some i, none) else if !b1 && b2 then some (a, none, some i) else none
  | _ => none
def cutT {α : Type} (ts : List α) (lo hi : Option Int) : List α := (ts.drop (HT.sIx ts.length 0 lo)).take (HT.sIx ts.length ts.length hi - HT.sIx ts.length 0 lo)
def slS (b1 b2 : Bool) : Op := fun ts => match partsT b1 b2 ts with
  | some (.str z, lo, hi) => if z.length ≤ sizeLine then some (.str (cutS z lo hi)) else none
  | _ => none
def slL (b1 b2 : Bool) : Op := fun ts => match partsT b1 b2 ts with
  | some (.lst us, lo, hi) => some (.lst (cutT us lo hi))
  | some (.clst us, lo, hi) => some (.lst (cutT us lo hi))
  | _ => none
def slTu (b1 b2 : Bool) : Op := fun ts => match partsT b1 b2 ts with
  | some (.tup us, lo, hi) => some (.tup (cutT us lo hi))
  | _ => none
theorem parts_sem {b1 b2 : Bool} {ts : List T} {a : T} {lo hi : Option Int} (h : partsT b1 b2 ts = some (a, lo, hi)) : (b1 = true ∧ b2 = true ∧ ∃ i j, ts = [a, .int i, .int j] ∧ lo = some i ∧ hi = some j) ∨ (b1 = true ∧ b2 = false ∧ ∃ i, ts = [a, .int i] ∧ lo = some i ∧ hi = none) ∨ (b1 = false ∧ b2 = true ∧ ∃ j, ts = [a, .int j] ∧ lo = none ∧ hi = some j) := by
  unfold partsT at h
  split at h
  · cases b1 <;> cases b2 <;> simp at h
    obtain ⟨rfl, rfl, rfl⟩ := h
    exact .inl ⟨rfl, rfl, _, _, rfl, rfl, rfl⟩
  · cases b1 <;> cases b2 <;> simp at h
    · obtain ⟨rfl, rfl, rfl⟩ := h
      exact .inr (.inr ⟨rfl, rfl, _, rfl, rfl, rfl⟩)
    · obtain ⟨rfl, rfl, rfl⟩ := h
      exact .inr (.inl ⟨rfl, rfl, _, rfl, rfl, rfl⟩)
  · cases h
theorem chkI {i : Int} : ∀ (H : Hp) (x : V), Rp K H x (.int i) → isI x H := fun H x h => ⟨i, h.int⟩
theorem chk_sl {b1 b2 : Bool} {op : Op} (h : ∀ ts c, op ts = some c → ∃ a lo hi, partsT b1 b2 ts = some (a, lo, hi)) : (b1 = true → b2 = true → Chk K [anyV, isI, isI] op) ∧ (b1 ≠ b2 → Chk K [anyV, isI] op) := by
  constructor
  · intro e1 e2 ts c e
    obtain ⟨a, lo, hi, q⟩ := h ts c e
    rcases parts_sem q with ⟨_, _, i, j, rfl, _⟩ | ⟨_, z, _⟩ | ⟨z, _⟩
    · exact .cons (fun _ _ _ => trivial) (.cons chkI (.cons chkI .nil))
    · rw [e2] at z; cases z
    · rw [e1] at z; cases z
  · intro n ts c e
    obtain ⟨a, lo, hi, q⟩ := h ts c e
    rcases parts_sem q with ⟨z1, z2, _⟩ | ⟨_, _, i, rfl, _⟩ | ⟨_, _, i, rfl, _⟩
    · exact absurd (z1.trans z2.symm) n
    · exact .cons (fun _ _ _ => trivial) (.cons chkI .nil)
    · exact .cons (fun _ _ _ => trivial) (.cons chkI .nil)
theorem cut_sok {z : Str} {lo hi : Option Int} (h : PyData.strOk z = true) : PyData.strOk (cutS z lo hi) = true := sok_sub (a := z) (fun c hc => by
  unfold cutS at hc
  simp only at hc
  exact List.mem_of_mem_drop (List.mem_of_mem_take hc)) h
theorem rd_slS {b1 b2 : Bool} : DRd K (rSl (NL.dSl K) b1 b2) (slS b1 b2) := fun H xs ts c Q r e k => by
  unfold slS at e
  split at e
  · rename_i z lo hi q
    split at e
    · rename_i hz
      cases e
      have fin : ∀ {x : V}, Rp K H x (.str z) → NL.dSl K x lo hi H Q := fun {x} h => by
        obtain ⟨rfl, s1⟩ := h.str
        exact ⟨hz, k _ H .refl (uni ⟨rfl, cut_sok s1⟩)⟩
      rcases parts_sem q with ⟨rfl, rfl, i, j, rfl, rfl, rfl⟩ | ⟨rfl, rfl, i, rfl, rfl, rfl⟩ | ⟨rfl, rfl, i, rfl, rfl, rfl⟩
      · obtain ⟨x, y, w, rfl, h1, h2, h3⟩ := r.three
        exact ⟨i, h2.int, j, h3.int, fin h1⟩
      · obtain ⟨x, y, rfl, h1, h2⟩ := r.two
        exact ⟨i, h2.int, fin h1⟩
      · obtain ⟨x, y, rfl, h1, h2⟩ := r.two
        exact ⟨i, h2.int, fin h1⟩
    · cases e
  · cases e
theorem VwL.three {G : Addr → Prop} {H : Hp} {t u w : T} {xs : List V} (h : VwL K G H xs [t, u, w]) : ∃ x y z, xs = [x, y, z] ∧ Vw K G H x t ∧ Vw K G H y u ∧ Vw K G H z w := by
  cases h with
  | cons h r =>
    obtain ⟨y, z, rfl, h2⟩ := r.two
    exact ⟨_, _, _, rfl, h, h2⟩
theorem cut_df {G : Addr → Prop} {H : Hp} {vs : List V} {us : List T} {lo hi : Option Int} (d : DfL K G H vs us) : DfL K G H (cutV vs lo hi) (cutT us lo hi) := by
  unfold cutV cutT
  rw [d.length]
  exact (d.drop _).take _
theorem nw_slL {b1 b2 : Bool} : DNew K (rSl (NL.dSl K) b1 b2) (slL b1 b2) := fun G H xs ts c Q r e al k => by
  unfold slL at e
  split at e
  · rename_i us lo hi q
    cases e
    have fin : ∀ {x : V}, Vw K G H x (.lst us) → NL.dSl K x lo hi H Q := fun {x} h => by
      obtain ⟨p, vs, rfl, k1, k2⟩ := h.lst
      exact ⟨vs, .inl k1, newL al (cut_df k2) k⟩
    rcases parts_sem q with ⟨rfl, rfl, i, j, rfl, rfl, rfl⟩ | ⟨rfl, rfl, i, rfl, rfl, rfl⟩ | ⟨rfl, rfl, i, rfl, rfl, rfl⟩
    · obtain ⟨x, y, w, rfl, h1, h2, h3⟩ := r.three
      exact ⟨i, h2.rp.int, j, h3.rp.int, fin h1⟩
    · obtain ⟨x, y, rfl, h1, h2⟩ := r.two
      exact ⟨i, h2.rp.int, fin h1⟩
    · obtain ⟨x, y, rfl, h1, h2⟩ := r.two
      exact ⟨i, h2.rp.int, fin h1⟩
  · rename_i us lo hi q
    cases e
    have fin : ∀ {x : V}, Vw K G H x (.clst us) → NL.dSl K x lo hi H Q := fun {x} h => by
      obtain ⟨p, vs, rfl, k1, k2, k3⟩ := h.rp.clst
      have := k2.svs k3
      subst this
      exact ⟨_, k1, newL al (cut_df (DfL.sv k3)) k⟩
    rcases parts_sem q with ⟨rfl, rfl, i, j, rfl, rfl, rfl⟩ | ⟨rfl, rfl, i, rfl, rfl, rfl⟩ | ⟨rfl, rfl, i, rfl, rfl, rfl⟩
    · obtain ⟨x, y, w, rfl, h1, h2, h3⟩ := r.three
      exact ⟨i, h2.rp.int, j, h3.rp.int, fin h1⟩
    · obtain ⟨x, y, rfl, h1, h2⟩ := r.two
      exact ⟨i, h2.rp.int, fin h1⟩
    · obtain ⟨x, y, rfl, h1, h2⟩ := r.two
      exact ⟨i, h2.rp.int, fin h1⟩
  · cases e
end
end NQ
namespace NQ
open PySem L2
/-! ### texts -/
section
variable {K : PySem.W.Frag} {G : Addr → Prop} {H : Hp}
def strsT : List T → Option (List Str)
  | [] => some []
  | .str s :: r => match strsT r with | some l => some (s :: l) | none => none
  | _ :: _ => none
theorem strs_sem : ∀ {ts : List T} {l : List Str}, strsT ts = some l → ts = l.map T.str
  | [], _, e => by cases e; rfl
  | .str s :: r, l, e => by
    have e' : (match strsT r with | some l => some (s :: l) | none => none) = some l := e
    cases q : strsT r with
    | none => rw [q] at e'; cases e'
    | some l' =>
      rw [q] at e'
      cases e'
      rw [strs_sem q]
      rfl
  | .non :: _, _, e => by cases e
  | .bl _ :: _, _, e => by cases e
  | .int _ :: _, _, e => by cases e
  | .lst _ :: _, _, e => by cases e
  | .tup _ :: _, _, e => by cases e
  | .ctup _ :: _, _, e => by cases e
  | .dic _ _ :: _, _, e => by cases e
  | .dit _ _ :: _, _, e => by cases e
  | .ins _ _ _ :: _, _, e => by cases e
  | .gl _ :: _, _, e => by cases e
  | .ty _ :: _, _, e => by cases e
theorem strs_map (l : List Str) : strsT (l.map T.str) = some l := by
  induction l with
  | nil => rfl
  | cons s r ih => show (match strsT (r.map T.str) with | some l => some (s :: l) | none => none) = _; rw [ih]
theorem RpL.strs {l : List Str} {vs : List V} (h : RpL K H vs (l.map T.str)) : vs = l.map V.str ∧ ∀ s ∈ l, PyData.strOk s = true := by
  induction l generalizing vs with
  | nil => cases h; exact ⟨rfl, fun _ z => absurd z List.not_mem_nil⟩
  | cons s r ih =>
    cases h with
    | cons h1 h2 =>
      obtain ⟨rfl, k⟩ := h1.str
      obtain ⟨rfl, k2⟩ := ih h2
      refine ⟨rfl, fun x hx => ?_⟩
      rcases List.mem_cons.mp hx with rfl | hx
      · exact k
      · exact k2 x hx
theorem strs_df {l : List Str} (h : ∀ s ∈ l, PyData.strOk s = true) : DfL K G H (l.map V.str) (l.map T.str) := by
  induction l with
  | nil => exact .nil
  | cons s r ih => exact .cons (.sc ⟨rfl, h s (List.mem_cons_self ..)⟩) (ih fun x hx => h x (List.mem_cons_of_mem _ hx))
theorem sok_join {a : Str} : ∀ {l : List Str}, PyData.strOk a = true → (∀ s ∈ l, PyData.strOk s = true) → PyData.strOk (Str.join a l) = true
  | [], _, _ => sok_empty
  | [x], _, h => h x (List.mem_cons_self ..)
  | x :: y :: r, h1, h => by
    show PyData.strOk (x ++ a ++ Str.join a (y :: r)) = true
    exact sok_app (sok_app (h x (List.mem_cons_self ..)) h1) (sok_join h1 fun s hs => h s (List.mem_cons_of_mem _ hs))
def joinT : Op
  | [.str a, c] => match seqT c with
    | some ts => match strsT ts with
      | some l => if (l.map (·.length)).sum + l.length * a.length ≤ 16777216 then some (.str (Txt.join a l)) else none
      | none => none
    | none => none
  | _ => none
abbrev rM (r : V → List V → Hp → VK → Prop) : RV := fun xs H Q => match xs with | x :: xs => r x xs H Q | [] => False
abbrev rM0 (r : V → List V → Hp → VK → Prop) : RV := fun xs H Q => match xs with | [x] => r x [] H Q | _ => False
theorem rd_join : DRd K (rM (NL.dJoin K)) joinT := fun H xs ts c Q r e k => by
  unfold joinT at e
  split at e
  · split at e
    · rename_i us q
      split at e
      · rename_i l q2
        split at e
        · rename_i z
          cases e
          obtain ⟨x, y, rfl, h1, h2⟩ := r.two
          obtain ⟨rfl, s1⟩ := h1.str
          obtain ⟨p, vs, rfl, k1, k2⟩ := h2.seq q
          rw [strs_sem q2] at k2
          obtain ⟨rfl, k3⟩ := k2.strs
          refine ⟨_, p, l, rfl, rfl, k1, z, k _ H .refl (uni ⟨rfl, ?_⟩)⟩
          rw [show Txt.join _ l = Str.join _ l from StrLaws.glued_eq_join _ _]
          exact sok_join s1 k3
        · cases e
      · cases e
    · cases e
  · cases e
theorem chkS {s : Str} : ∀ (H : Hp) (x : V), Rp K H x (.str s) → tyV K "str" x H := fun H x h => by
  obtain ⟨rfl, _⟩ := h.str
  rfl
theorem chk_join : Chk K [tyV K "str"] joinT := fun ts c e => by
  unfold joinT at e
  split at e
  · exact .cons chkS .nil
  · cases e
/-- the parts of a text are of its signs -/
theorem sub_sok {x : Str} {i j : Nat} (h : PyData.strOk x = true) : PyData.strOk (Builtin.Str.strSub x i j) = true := sok_sub (a := x) (fun c hc => by
  rw [StrLaws.strSub_toList] at hc
  exact List.mem_of_mem_drop (List.mem_of_mem_take hc)) h
theorem from_sok {x : Str} {w : Nat} (h : PyData.strOk x = true) : ∀ (cuts : List Nat) (a : Nat), ∀ s ∈ StrLaws.partsFrom x w a cuts, PyData.strOk s = true
  | [], a, s, hs => by
    unfold StrLaws.partsFrom at hs
    rw [List.mem_singleton.mp hs]
    exact sub_sok h
  | c :: r, a, s, hs => by
    unfold StrLaws.partsFrom at hs
    rcases List.mem_cons.mp hs with rfl | hs
    · exact sub_sok h
    · exact from_sok h r _ s hs
theorem split_sok {x y : Str} (h : PyData.strOk x = true) : ∀ s ∈ Txt.split x y, PyData.strOk s = true := fun s hs => by
  unfold Txt.split at hs
  split at hs
  · rw [List.mem_singleton.mp hs]; exact h
  · split at hs
    · rw [List.mem_singleton.mp hs]; exact h
    · rw [StrLaws.partsBetween_eq] at hs
      exact from_sok h _ _ s hs
theorem words_sok {x : Str} (h : PyData.strOk x = true) : ∀ s ∈ Txt.words x, PyData.strOk s = true := fun s hs => by
  unfold Txt.words at hs
  split at hs
  · rw [List.mem_singleton.mp hs]; exact h
  · unfold wordsOf at hs
    obtain ⟨p, _, rfl⟩ := List.mem_map.mp hs
    exact sub_sok h
def splitT : Op
  | [.str a, .str b] => if (b.length == 0) = false ∧ a.length + 2 ≤ sizeLine then some (.lst ((Txt.split a b).map T.str)) else none
  | _ => none
def wordsT : Op
  | [.str a] => if a.length + 2 ≤ sizeLine then some (.lst ((Txt.words a).map T.str)) else none
  | _ => none
/-- a new list of texts -/
theorem uniL {l : List Str} {Q : VK} (h : ∀ s ∈ l, PyData.strOk s = true) (k : ∀ z H', EdP noA H H' → (∀ G : Addr → Prop, (∀ a, G a → H a ≠ none) → Df K G H' z (.lst (l.map T.str))) → Q z H') : ∀ p, H p = none → Q (.ref p) (upd H p (.lst (l.map V.str))) :=
  fun p hp => k _ _ (EdP.new hp) fun G al => .nd (fun z => al p z hp) (Or.inl upd_same) (strs_df h)
theorem rd_split : DRd K (rM NL.dSplit) splitT := fun H xs ts c Q r e k => by
  unfold splitT at e
  split at e
  · split at e
    · rename_i z
      cases e
      obtain ⟨x, y, rfl, h1, h2⟩ := r.two
      obtain ⟨rfl, s1⟩ := h1.str
      obtain ⟨rfl, s2⟩ := h2.str
      exact ⟨_, _, rfl, rfl, z.1, z.2, uniL (split_sok s1) k⟩
    · cases e
  · cases e
theorem nw_split : DNew K (rM NL.dSplit) splitT := fun G H xs ts c Q r e al k => by
  unfold splitT at e
  split at e
  · split at e
    · rename_i z
      cases e
      obtain ⟨x, y, rfl, h1, h2⟩ := r.two
      obtain ⟨rfl, s1⟩ := h1.rp.str
      obtain ⟨rfl, s2⟩ := h2.rp.str
      exact ⟨_, _, rfl, rfl, z.1, z.2, newL al (strs_df (split_sok s1)) k⟩
    · cases e
  · cases e
theorem split_kids : ∀ ts c, splitT ts = some c → (Sh.all .fz).kids c = some (c.kids.map fun _ => .fz) := fun ts c e => by
  unfold splitT at e
  split at e
  · split at e <;> cases e
    rfl
  · cases e
theorem chk_split : Chk K [tyV K "str"] splitT := fun ts c e => by
  unfold splitT at e
  split at e
  · exact .cons chkS .nil
  · cases e
theorem rd_words : DRd K (rM0 NL.dWords) wordsT := fun H xs ts c Q r e k => by
  unfold wordsT at e
  split at e
  · split at e
    · rename_i z
      cases e
      obtain ⟨x, rfl, h1⟩ := r.one
      obtain ⟨rfl, s1⟩ := h1.str
      exact ⟨_, rfl, rfl, z, uniL (words_sok s1) k⟩
    · cases e
  · cases e
theorem chk_words : Chk K [tyV K "str"] wordsT := fun ts c e => by
  unfold wordsT at e
  split at e
  · exact .cons chkS .nil
  · cases e
def stripT : Op
  | [.str a] => if a.length ≤ sizeLine then some (.str (Txt.strip a)) else none
  | _ => none
def dStrip : V → List V → Hp → VK → Prop := fun x xs H Q => ∃ a, x = .str a ∧ xs = [] ∧ a.length ≤ sizeLine ∧ Q (.str (Txt.strip a)) H
theorem m_strip {X : Cx} : MtR X "str.strip" dStrip := mt_strip
theorem strip_sok {x : Str} (h : PyData.strOk x = true) : PyData.strOk (Txt.strip x) = true := by
  unfold Txt.strip Txt.stripBy
  split
  · exact h
  · exact sub_sok h
theorem rd_strip : DRd K (rM0 dStrip) stripT := fun H xs ts c Q r e k => by
  unfold stripT at e
  split at e
  · split at e
    · rename_i z
      cases e
      obtain ⟨x, rfl, h1⟩ := r.one
      obtain ⟨rfl, s1⟩ := h1.str
      exact ⟨_, rfl, rfl, z, k _ H .refl (uni ⟨rfl, strip_sok s1⟩)⟩
    · cases e
  · cases e
theorem chk_strip : Chk K [tyV K "str"] stripT := fun ts c e => by
  unfold stripT at e
  split at e
  · exact .cons chkS .nil
  · cases e
/-! ### lists: + and * -/
theorem nw_addL : DNew K (r2 (fun x y H Q => ∃ a b xs ys, x = .ref a ∧ y = .ref b ∧ SqL K H a xs ∧ SqL K H b ys ∧ xs.length + ys.length ≤ sizeLine ∧ ∀ l, H l = none → Q (.ref l) (upd H l (.lst (xs ++ ys))))) addL := fun G H xs ts c Q r e al k => by
  unfold addL at e
  split at e
  · split at e
    · rename_i z
      cases e
      obtain ⟨x, y, rfl, h1, h2⟩ := r.two
      obtain ⟨p, vs, rfl, k1, k2⟩ := h1.lst
      obtain ⟨q, us, rfl, k3, k4⟩ := h2.lst
      exact ⟨p, q, vs, us, rfl, rfl, .inl k1, .inl k3, by rw [k2.length, k4.length]; exact z, newL al (k2.app k4) k⟩
    · cases e
  · cases e
theorem addL_kids : ∀ ts c, addL ts = some c → (Sh.all .fz).kids c = some (c.kids.map fun _ => .fz) := fun ts c e => by
  unfold addL at e
  split at e
  · split at e <;> cases e
    rfl
  · cases e
def mulL : Op
  | [.lst xs, .int n] => if -(2 ^ 63) ≤ n ∧ n < 2 ^ 63 ∧ xs.length * n.toNat ≤ sizeLine then some (.lst (List.replicate n.toNat xs).flatten) else none
  | _ => none
theorem rep_df {vs : List V} {ts : List T} (d : DfL K G H vs ts) : ∀ n : Nat, DfL K G H (List.replicate n vs).flatten (List.replicate n ts).flatten
  | 0 => .nil
  | n + 1 => by
    rw [List.replicate_succ, List.replicate_succ, List.flatten_cons, List.flatten_cons]
    exact d.app (rep_df d n)
theorem mulL_kids : ∀ ts c, mulL ts = some c → (Sh.all .fz).kids c = some (c.kids.map fun _ => .fz) := fun ts c e => by
  unfold mulL at e
  split at e
  · split at e <;> cases e
    rfl
  · cases e
end
/-! ### truth -/
def truT : T → Option Bool
  | .non => some false
  | .bl b => some b
  | .int i => some (i != 0)
  | .str z => if z.length ≤ sizeLine then some ((z.length : Int) != 0) else none
  | .lst ts => some (!ts.isEmpty)
  | .tup ts => some (!ts.isEmpty)
  | .ctup ts => some (!ts.isEmpty)
  | .dic ks ts => if ks.length = ts.length then some (!ts.isEmpty) else none
  | .dit ks ts => if ks.length = ts.length then some (!ts.isEmpty) else none
  | _ => none
def TruX (K : PySem.W.Frag) (x : V) (H : Hp) (k : Bool) : Prop := TruV K x H k ∨ ∃ p kvs, x = .ref p ∧ H p = some (.dT kvs) ∧ k = !kvs.isEmpty
theorem empty_len {α β : Type} {xs : List α} {ys : List β} (h : xs.length = ys.length) : (!xs.isEmpty) = !ys.isEmpty := by
  cases xs <;> cases ys <;> first | rfl | cases h
theorem empty_zip {α β γ : Type} {xs : List α} {ys : List β} {zs : List γ} (h : xs.length = ys.length) (h2 : ys.length = zs.length) : (!(xs.zip ys).isEmpty) = !zs.isEmpty := by
  cases xs <;> cases ys <;> cases zs <;> first | rfl | (exfalso; simp only [List.length_cons, List.length_nil] at h h2; omega)
theorem Rp.tru {K : PySem.W.Frag} {H : Hp} {x : V} {t : T} {b : Bool} (h : Rp K H x t) (e : truT t = some b) : TruX K x H b := by
  cases t with
  | non => cases e; cases h.non; exact .inl rfl
  | bl c => cases e; cases h.bl; exact .inl rfl
  | int i => cases e; cases h.int; exact .inl rfl
  | str z =>
    simp only [truT] at e
    split at e
    · rename_i hz
      cases e
      obtain ⟨rfl, _⟩ := h.str
      exact .inl ⟨hz, rfl⟩
    · cases e
  | lst ts =>
    cases e
    obtain ⟨a, vs, rfl, h1, h2⟩ := h.lst
    exact .inl (.inl ⟨vs, h1, (empty_len h2.length).symm⟩)
  | tup ts =>
    cases e
    obtain ⟨a, vs, rfl, h1, h2⟩ := h.tup
    exact .inl (.inr (.inl ⟨vs, h1, (empty_len h2.length).symm⟩))
  | ctup ts =>
    cases e
    obtain ⟨a, vs, rfl, h1, h2, _⟩ := h.ctup
    exact .inl (.inr (.inl ⟨vs, h1, (empty_len h2.length).symm⟩))
  | clst ts => cases e
  | dic ks ts =>
    simp only [truT] at e
    split at e
    · cases e
      obtain ⟨a, vs, rfl, l, h1, h2⟩ := h.dic
      exact .inl (.inr (.inr ⟨_, h1, (empty_zip l h2.length).symm⟩))
    · cases e
  | dit ks ts =>
    simp only [truT] at e
    split at e
    · cases e
      obtain ⟨a, vs, rfl, l, h1, h2⟩ := h.dit
      exact .inr ⟨a, _, rfl, h1, (empty_zip l h2.length).symm⟩
    · cases e
  | ins c fs ts => cases e
  | gl n => cases e
  | ty n => cases e
/-- the truth of a dict whose keys are tuples, by its length -/
theorem truthy_dT {X : Cx} {pins : List (Addr × Obj)} {σ : L2.St} {H : Hp} {s : Shared} {p : Addr} {kvs : List (List Key × V)} {Q : Bool → Shared → Prop} {E : Value → Shared → Prop} (I : Inv X pins σ H s) (hp : H p = some (.dT kvs)) (h : ∀ s', Inv X pins σ H s' → Q (!kvs.isEmpty) s') :
    wpAny (model X.prog X.w) X.A (truthy (.ref p)) Q E s := by
  obtain ⟨z, hd, ys, rel, dd⟩ := dt_of I.hok hp
  have hl : kvs.length = ys.length := Paired.length rel
  have hfit : (ys.length : Int) < 2 ^ 63 := by rw [← hl]; rw [sizeLine_eq] at z; omega
  have hne : ((ys.length : Int) != 0) = !kvs.isEmpty := by
    rw [← hl]
    cases kvs with
    | nil => rfl
    | cons a r => simp; omega
  have k : wpAny (model X.prog X.w) X.A (runValue (.builtin "len" ⟨[.ref p], []⟩)) (fun r s' => ∃ t, r = .int ys.length t ∧ Inv X pins σ H s') E s := by
    refine wpAny_runValue (codeAny_builtin entry_len ?_)
    rw [Around.under_plainId plain_len _]
    refine wpAny_mono (wpAny_len_body_dictH (Q := fun r s' => ∃ t, r = .int ys.length t ∧ Inv X pins σ H s') hd dd hfit ⟨_, rfl, I.tok _⟩) (fun fin s' ⟨r, e, q⟩ => ?_) fun _ _ e => e
    subst e
    exact q
  have fin : wpAny (model X.prog X.w) X.A (runValue (.builtin "len" ⟨[.ref p], []⟩)) (fun r s' => ∃ t, r = .int ys.length t ∧ Q (!kvs.isEmpty) s') E s := thn k fun r s' ⟨t, e, J⟩ => ⟨t, e, h s' J⟩
  have ty := dd.typeIs
  unfold truthy
  refine wpAny_bind ?_
  refine wpAny_callSpecial?_none (name := Str.ofString "__bool__") ty noBool_dict ?_
  refine wpAny_bind ?_
  refine wpAny_specialOf (name := Str.ofString "__len__") ty F.slot_dict_len.lookup ?_
  refine wpAny_bind (thn fin fun r s' ⟨t, e, q⟩ => ?_)
  subst e
  refine wpAny_pure ?_
  rw [hne]
  exact q
theorem tru_okX {X : Cx} : TruR X (fun x H Q => ∃ k, TruX X.K x H k ∧ Q k H) := by
  intro pins s σ H x v Q I rx h
  obtain ⟨k, e, q⟩ := h
  rcases e with e | ⟨p, kvs, rfl, hp, rfl⟩
  · exact tru_ok pins s σ H x v Q I rx ⟨k, e, q⟩
  · cases rx
    exact truthy_dT I hp fun s' J => ⟨H, J, q⟩
theorem pt_truX {X : Cx} {e : Expr} {ta : TE} (K : PySem.W.Frag) (ha : PE X e ta) (he : ∀ whole, isTrue e X.env whole = (do let v ← whole; standAt e.pos; holding [v] (truthy v)) := by intro _; rfl) (h : X.K = K := by rfl) :
    PT X e (fun σ H Q => ta σ H fun x H' => ∃ k, TruX K x H' k ∧ Q k H') := by
  subst h
  exact ⟨fun pins s σ H Q I h => PyProof.Rows.isTrue_plain (thn (ha.run pins s σ H _ I h) fun v s1 ⟨x, H1, I1, r1, q1⟩ => tru_okX pins s1 σ H1 x v Q I1 r1 q1) (he _)⟩
/-! ### tests -/
abbrev Qb := Dl → Option Bool
abbrev Rb := Option (Except Xn Bool × Dl)
def TQT (K : PySem.W.Frag) (sh : Nat → Sh) (f : Qb) : TT := fun σ H Q => ∃ W Y Fm δ b, Fr K sh W Y Fm H σ δ ∧ f δ = some b ∧ ∀ H', EdP noA H H' → Q b H'
def Kt (K : PySem.W.Frag) (sh : Nat → Sh) (Wx : WX) (W : Addr → Prop) (Y : List Addr) (Fm : Nat → List Addr) (σ : L2.St) (H : Hp) (r : Rb) (Q : Bool → Hp → Prop) : Prop := match r with
  | none => False
  | some (.ok b, δ') => ∀ H' Fm', Fr K sh W Y Fm' H' σ δ' → Xt (Om Fm) (Om Fm') H H' → Q b H'
  | some (.error e, δ') => Ke K sh Wx W Y Fm σ H e δ'
def TFT (K : PySem.W.Frag) (sh : Nat → Sh) (Wx : WX) (f : Dl → Rb) : TT := fun σ H Q => ∃ W Y Fm δ, Fr K sh W Y Fm H σ δ ∧ Kt K sh Wx W Y Fm σ H (f δ) Q
def qB (f : Qb) : Dl → Rb := fun δ => match f δ with
  | none => none
  | some b => some (.ok b, δ)
def asB (f : Qf) : Qb := fun δ => match f δ with
  | some (.bl b) => some b
  | _ => none
def asTru (f : Qf) : Qb := fun δ => match f δ with
  | some t => truT t
  | none => none
def asBE (f : Dl → Rs) : Dl → Rb := fun δ => match f δ with
  | some (.ok (.bl b), δ') => some (.ok b, δ')
  | some (.error e, δ') => some (.error e, δ')
  | _ => none
def asTruE (f : Dl → Rs) : Dl → Rb := fun δ => match f δ with
  | none => none
  | some (.error e, δ') => some (.error e, δ')
  | some (.ok t, δ') => match truT t with
    | some b => some (.ok b, δ')
    | none => none
def notQ (f : Qb) : Qb := fun δ => match f δ with
  | some b => some (!b)
  | none => none
def andQ (f g : Qb) : Qb := fun δ => match f δ with
  | some true => g δ
  | some false => some false
  | none => none
def orQ (f g : Qb) : Qb := fun δ => match f δ with
  | some true => some true
  | some false => g δ
  | none => none
def notE (f : Dl → Rb) : Dl → Rb := fun δ => match f δ with
  | none => none
  | some (.error e, δ') => some (.error e, δ')
  | some (.ok b, δ') => some (.ok (!b), δ')
def andE (f g : Dl → Rb) : Dl → Rb := fun δ => match f δ with
  | none => none
  | some (.error e, δ') => some (.error e, δ')
  | some (.ok true, δ') => g δ'
  | some (.ok false, δ') => some (.ok false, δ')
def orE (f g : Dl → Rb) : Dl → Rb := fun δ => match f δ with
  | none => none
  | some (.error e, δ') => some (.error e, δ')
  | some (.ok true, δ') => some (.ok true, δ')
  | some (.ok false, δ') => g δ'
section
variable {X : Cx} {K : PySem.W.Frag} {sh : Nat → Sh} {Wx : WX} {W : Addr → Prop} {Y : List Addr} {Fm Fm1 : Nat → List Addr} {H H1 : Hp} {e a b : Expr} {rest : List Expr} {pos : Pos} {es : List Expr} {op : Op} {l : List (Md × Qf)} {os : List Opd} {σ : L2.St}
theorem Kt.shift {r : Rb} {Q : Bool → Hp → Prop} (x1 : Xt (Om Fm) (Om Fm1) H H1) (h : Kt K sh Wx W Y Fm σ H r Q) : Kt K sh Wx W Y Fm1 σ H1 r Q := by
  unfold Kt at h ⊢
  split at h
  · exact h
  · exact fun H' Fm' f k => h H' Fm' f (x1.tr k)
  · exact h.shift x1
theorem mt_qb {f : Qb} (h : PT X e (TQT K sh f)) : PT X e (TFT K sh Wx (qB f)) := pt_imp h fun σ H Q ⟨W, Y, Fm, δ, fr, k⟩ => by
  unfold qB at k
  cases q : f δ with
  | none => simp only [q] at k; exact k.elim
  | some b =>
    simp only [q] at k
    exact ⟨W, Y, Fm, δ, b, fr, q, fun H' ed => k H' Fm (fr.ed0 ed) ed.xt0⟩
theorem mt_q (c : CoRT X K e es op) (hs : PEs X es (l.map fun p => TQ K sh p.1 p.2)) : PT X e (TQT K sh (asB (opq op (l.map Prod.snd)))) := by
  induction c with
  | one c d hb =>
    refine pt_imp (c _ hs) fun σ H Q ⟨W, Y, Fm, δ, b, fr, e1, k⟩ => ?_
    unfold asB opq at e1
    cases q : evq (l.map Prod.snd) δ with
    | none => simp only [q] at e1; cases e1
    | some ts =>
      simp only [q] at e1
      split at e1
      · rename_i b' q2
        cases e1
        exact qargs fr q fun xs H' ed r => d H' xs ts _ _ r.rp q2 fun z H2 ed2 dz => by
          have hz := (dz noA fun _ z => z.elim).rp.bl
          subst hz
          exact ⟨_, rfl, k H2 (ed.tr ed2 fun _ z => z.elim)⟩
      · cases e1
  | alt _ _ h1 h2 =>
    rename_i f g _ _
    refine pt_imp (pt_or h1 h2) fun σ H Q ⟨W, Y, Fm, δ, b, fr, e1, k⟩ => ?_
    unfold asB opq at e1
    cases q : evq (l.map Prod.snd) δ with
    | none => simp only [q] at e1; cases e1
    | some ts =>
      simp only [q] at e1
      unfold altT at e1
      cases q2 : f ts with
      | some c =>
        simp only [q2] at e1
        exact .inl ⟨W, Y, Fm, δ, b, fr, by unfold asB opq; simp only [q, q2]; exact e1, k⟩
      | none =>
        simp only [q2] at e1
        exact .inr ⟨W, Y, Fm, δ, b, fr, by unfold asB opq; simp only [q]; exact e1, k⟩
theorem mt_tru {m : Md} {f : Qf} (h : PE X e (TQ K sh m f)) (he : ∀ whole, isTrue e X.env whole = (do let v ← whole; standAt e.pos; holding [v] (truthy v)) := by intro _; rfl) (hK : X.K = K := by rfl) : PT X e (TQT K sh (asTru f)) :=
  pt_imp (pt_truX K h he hK) fun σ H Q ⟨W, Y, Fm, δ, b, fr, e1, k⟩ => by
    unfold asTru at e1
    cases q : f δ with
    | none => simp only [q] at e1; cases e1
    | some t =>
      simp only [q] at e1
      exact ⟨W, Y, Fm, δ, t, fr, q, fun x H' ed r => ⟨b, r.rp.tru e1, k H' ed⟩⟩
theorem mt_truE {f : Dl → Rs} (h : PE X e (TF K sh Wx f)) (he : ∀ whole, isTrue e X.env whole = (do let v ← whole; standAt e.pos; holding [v] (truthy v)) := by intro _; rfl) (hK : X.K = K := by rfl) : PT X e (TFT K sh Wx (asTruE f)) :=
  pt_imp (pt_truX K h he hK) fun σ H Q ⟨W, Y, Fm, δ, fr, k⟩ => by
    refine ⟨W, Y, Fm, δ, fr, ?_⟩
    unfold asTruE at k
    cases q : f δ with
    | none => simp only [q] at k; exact k.elim
    | some p =>
      obtain ⟨p, δ'⟩ := p
      cases p with
      | error er => simp only [q] at k; exact k
      | ok t =>
        simp only [q] at k
        cases q2 : truT t with
        | none => simp only [q2] at k; exact k.elim
        | some b =>
          simp only [q2] at k
          exact fun x H' Fm' f' x' d => ⟨b, d.rp.tru q2, k H' Fm' f' x'⟩
theorem flat_vals {sh : Nat → Sh} : ∀ {os : List Opd}, vals os = true → flats sh os = true
  | [], _ => rfl
  | .var _ :: _, h => by cases h
  | .val _ :: r, h => flat_vals (os := r) h
theorem mt_e (c : CoRT X K e es op) (hs : PEs X es (os.map (TO K sh Wx))) (hf : flats sh os = true := by rfl) : PT X e (TFT K sh Wx (asBE (opn op os))) := by
  induction c with
  | one c d hb =>
    refine pt_imp (c _ hs) fun σ H Q ⟨W, Y, Fm, δ, fr, k⟩ => ?_
    show tAll (os.map (TO K sh Wx)) σ H _
    rw [TOs_all]
    refine opn_ok d.op hf ⟨W, Y, Fm, δ, fr, ?_⟩
    unfold asBE at k
    split at k
    · rename_i b' δ' q
      rw [q]
      exact fun x H' Fm' f' x' dd => by
        cases dd.rp.bl
        exact ⟨b', rfl, k H' Fm' f' x'⟩
    · rename_i er δ' q
      rw [q]
      exact k
    · exact k.elim
  | alt _ _ h1 h2 =>
    rename_i f g _ _
    refine pt_imp (pt_or h1 h2) fun σ H Q ⟨W, Y, Fm, δ, fr, k⟩ => ?_
    have ea : asBE (opn (altT f g) os) δ = match opn f os δ with | none => asBE (opn g os) δ | some _ => asBE (opn f os) δ := by
      unfold asBE
      rw [opn_alt]
      cases opn f os δ <;> rfl
    rw [ea] at k
    cases q2 : opn f os δ with
    | none => rw [q2] at k; exact .inr ⟨W, Y, Fm, δ, fr, k⟩
    | some r => rw [q2] at k; exact .inl ⟨W, Y, Fm, δ, fr, k⟩
theorem mt_not {f : Qb} (h : PT X a (TQT K sh f)) : PT X (.UnaryOp .Not a pos) (TQT K sh (notQ f)) := pt_imp (pt_not h) fun σ H Q ⟨W, Y, Fm, δ, b, fr, e1, k⟩ => by
  unfold notQ at e1
  split at e1
  · rename_i q; cases e1; exact ⟨W, Y, Fm, δ, _, fr, q, k⟩
  · cases e1
theorem mt_notE {f : Dl → Rb} (h : PT X a (TFT K sh Wx f)) : PT X (.UnaryOp .Not a pos) (TFT K sh Wx (notE f)) := pt_imp (pt_not h) fun σ H Q ⟨W, Y, Fm, δ, fr, k⟩ => by
  refine ⟨W, Y, Fm, δ, fr, ?_⟩
  unfold notE at k
  split at k
  · exact k.elim
  · rename_i q; rw [q]; exact k
  · rename_i q; rw [q]; exact k
theorem mw_one {f : Qb} {op : BoolOp} (h : PT X a (TQT K sh f)) : PW X (.BoolOp op [a] pos) (TQT K sh f) := by
  cases op
  · exact pw_and1 h
  · exact pw_or1 h
theorem mw_oneE {f : Dl → Rb} {op : BoolOp} (h : PT X a (TFT K sh Wx f)) : PW X (.BoolOp op [a] pos) (TFT K sh Wx f) := by
  cases op
  · exact pw_and1 h
  · exact pw_or1 h
theorem mw_and {f g : Qb} (h : PT X a (TQT K sh f)) (h2 : PW X (.BoolOp .And (b :: rest) pos) (TQT K sh g)) : PW X (.BoolOp .And (a :: b :: rest) pos) (TQT K sh (andQ f g)) := pw_imp (pw_and h h2) fun σ H Q ⟨W, Y, Fm, δ, b, fr, e1, k⟩ => by
  unfold andQ at e1
  split at e1
  · rename_i q
    exact ⟨W, Y, Fm, δ, true, fr, q, fun H' ed => iteT ⟨W, Y, Fm, δ, b, fr.ed0 ed, e1, fun H2 ed2 => k H2 (ed.tr ed2 fun _ z => z.elim)⟩⟩
  · rename_i q
    cases e1
    exact ⟨W, Y, Fm, δ, false, fr, q, fun H' ed => iteF (k H' ed)⟩
  · cases e1
theorem mw_or {f g : Qb} (h : PT X a (TQT K sh f)) (h2 : PW X (.BoolOp .Or (b :: rest) pos) (TQT K sh g)) : PW X (.BoolOp .Or (a :: b :: rest) pos) (TQT K sh (orQ f g)) := pw_imp (pw_or h h2) fun σ H Q ⟨W, Y, Fm, δ, b, fr, e1, k⟩ => by
  unfold orQ at e1
  split at e1
  · rename_i q
    cases e1
    exact ⟨W, Y, Fm, δ, true, fr, q, fun H' ed => iteT (k H' ed)⟩
  · rename_i q
    exact ⟨W, Y, Fm, δ, false, fr, q, fun H' ed => iteF ⟨W, Y, Fm, δ, b, fr.ed0 ed, e1, fun H2 ed2 => k H2 (ed.tr ed2 fun _ z => z.elim)⟩⟩
  · cases e1
theorem mw_andE {f g : Dl → Rb} (h : PT X a (TFT K sh Wx f)) (h2 : PW X (.BoolOp .And (b :: rest) pos) (TFT K sh Wx g)) : PW X (.BoolOp .And (a :: b :: rest) pos) (TFT K sh Wx (andE f g)) := pw_imp (pw_and h h2) fun σ H Q ⟨W, Y, Fm, δ, fr, k⟩ => by
  refine ⟨W, Y, Fm, δ, fr, ?_⟩
  unfold andE at k
  split at k
  · exact k.elim
  · rename_i q; rw [q]; exact k
  · rename_i δ' q; rw [q]; exact fun H' Fm' f' x' => iteT ⟨W, Y, Fm', δ', f', k.shift x'⟩
  · rename_i δ' q; rw [q]; exact fun H' Fm' f' x' => iteF (k H' Fm' f' x')
theorem mw_orE {f g : Dl → Rb} (h : PT X a (TFT K sh Wx f)) (h2 : PW X (.BoolOp .Or (b :: rest) pos) (TFT K sh Wx g)) : PW X (.BoolOp .Or (a :: b :: rest) pos) (TFT K sh Wx (orE f g)) := pw_imp (pw_or h h2) fun σ H Q ⟨W, Y, Fm, δ, fr, k⟩ => by
  refine ⟨W, Y, Fm, δ, fr, ?_⟩
  unfold orE at k
  split at k
  · exact k.elim
  · rename_i q; rw [q]; exact k
  · rename_i δ' q; rw [q]; exact fun H' Fm' f' x' => iteT (k H' Fm' f' x')
  · rename_i δ' q; rw [q]; exact fun H' Fm' f' x' => iteF ⟨W, Y, Fm', δ', f', k.shift x'⟩
end
end NQ
namespace NQ
open PySem L2
/-! ### statements -/
inductive Fl where
  | nx | brk | cont | ret (t : T) | exc (e : Xn)
abbrev Ss := Option (Fl × Dl)
abbrev Sf := Dl → Ss
/-- the slots' shapes, the shape of what is returned, the slots that keep their value -/
structure Cf where
  sh : Nat → Sh
  rs : Sh
  pr : Nat → Bool
def Kp (c : Cf) (σ σ' : L2.St) : Prop := ∀ i, c.pr i = true → σ'[i]? = σ[i]?
theorem Kp.refl {c : Cf} {σ : L2.St} : Kp c σ σ := fun _ _ => rfl
theorem Kp.tr {c : Cf} {σ σ1 σ2 : L2.St} (h : Kp c σ σ1) (h2 : Kp c σ1 σ2) : Kp c σ σ2 := fun i p => (h2 i p).trans (h i p)
theorem Kp.set {c : Cf} {σ : L2.St} {i : Nat} {v : Option V} (h : c.pr i = false) : Kp c σ (σ.set i v) := fun j p => by
  rw [List.getElem?_set_ne (fun z => by rw [z, p] at h; cases h)]
section
variable (K : PySem.W.Frag) (c : Cf)
def Kx (W : Addr → Prop) (Y : List Addr) (Fm : Nat → List Addr) (σ : L2.St) (H : Hp) (δ' : Dl) (N : L2.St → Hp → Prop) : Prop :=
  ∀ σ' H' Fm', Kp c σ σ' → Fr K c.sh W Y Fm' H' σ' δ' → Xt (Om Fm) (Om Fm') H H' → N σ' H'
def Kr (W : Addr → Prop) (Y : List Addr) (Fm : Nat → List Addr) (σ : L2.St) (H : Hp) (t : T) (δ' : Dl) (R : VK) : Prop :=
  ∀ x σ' H' Fm' F, Kp c σ σ' → Fr K c.sh W (F ++ Y) Fm' H' σ' δ' → Ow K (Gw (F ++ Y) Fm' W) H' c.rs F x t → Xt (Om Fm) (fun a => a ∈ F ∨ Om Fm' a) H H' → R x H'
def Kes (Wx : WX) (W : Addr → Prop) (Y : List Addr) (Fm : Nat → List Addr) (σ : L2.St) (H : Hp) (e : Xn) (δ' : Dl) : Prop :=
  ∀ σ' d v H' Fm', Kp c σ σ' → Fr K c.sh W Y Fm' H' σ' δ' → Xt (Om Fm) (Om Fm') H H' → (¬ Gw Y Fm' W d ∧ H' d = some (.xd [(e.fld, v)])) → Df K (Gw Y Fm' W) H' v e.val → Wx (.ref (He.ga K e.cls)) (some d) σ' H'
def Ks (Wx : WX) (W : Addr → Prop) (Y : List Addr) (Fm : Nat → List Addr) (σ : L2.St) (H : Hp) (r : Ss) (D : Ends) : Prop := match r with
  | none => False
  | some (.nx, δ') => Kx K c W Y Fm σ H δ' D.nx
  | some (.brk, δ') => Kx K c W Y Fm σ H δ' D.bk
  | some (.cont, δ') => Kx K c W Y Fm σ H δ' D.ct
  | some (.ret t, δ') => Kr K c W Y Fm σ H t δ' D.rt
  | some (.exc e, δ') => Kes K c Wx W Y Fm σ H e δ'
def SF (Wx : WX) (F : Sf) : TS := fun D σ H => ∃ W Y Fm δ, Fr K c.sh W Y Fm H σ δ ∧ Ks K c Wx W Y Fm σ H (F δ) D
end
def sNext : Sf := fun δ => some (.nx, δ)
def sBrk : Sf := fun δ => some (.brk, δ)
def sCont : Sf := fun δ => some (.cont, δ)
def sSeq (F G : Sf) : Sf := fun δ => match F δ with
  | some (.nx, δ') => G δ'
  | r => r
def sSet (i : Nat) (f : Dl → Rs) : Sf := fun δ => match f δ with
  | none => none
  | some (.error e, δ') => some (.exc e, δ')
  | some (.ok t, δ') => some (.nx, δ'.set i (some t))
def sDrop (f : Dl → Rs) : Sf := fun δ => match f δ with
  | none => none
  | some (.error e, δ') => some (.exc e, δ')
  | some (.ok _, δ') => some (.nx, δ')
def sRet (f : Dl → Rs) : Sf := fun δ => match f δ with
  | none => none
  | some (.error e, δ') => some (.exc e, δ')
  | some (.ok t, δ') => some (.ret t, δ')
def sRetV (i : Nat) : Sf := fun δ => match dAt δ i with
  | none => none
  | some t => some (.ret t, δ.set i none)
def sRetN : Sf := fun δ => some (.ret .non, δ)
def sIf (f : Dl → Rb) (F G : Sf) : Sf := fun δ => match f δ with
  | none => none
  | some (.error e, δ') => some (.exc e, δ')
  | some (.ok true, δ') => F δ'
  | some (.ok false, δ') => G δ'
section
variable {K : PySem.W.Frag} {c : Cf} {Wx : WX} {W : Addr → Prop} {Y : List Addr} {Fm Fm1 : Nat → List Addr} {σ σ1 : L2.St} {H H1 : Hp} {δ δ' : Dl}
theorem Kx.shift {N : L2.St → Hp → Prop} (kp : Kp c σ σ1) (x : Xt (Om Fm) (Om Fm1) H H1) (h : Kx K c W Y Fm σ H δ' N) : Kx K c W Y Fm1 σ1 H1 δ' N := fun σ' H' Fm' k f x' => h σ' H' Fm' (kp.tr k) f (x.tr x')
theorem Kr.shift {R : VK} {t : T} (kp : Kp c σ σ1) (x : Xt (Om Fm) (Om Fm1) H H1) (h : Kr K c W Y Fm σ H t δ' R) : Kr K c W Y Fm1 σ1 H1 t δ' R := fun v σ' H' Fm' F k f o x' => h v σ' H' Fm' F (kp.tr k) f o (x.tr x')
theorem Kes.shift {e : Xn} (kp : Kp c σ σ1) (x : Xt (Om Fm) (Om Fm1) H H1) (h : Kes K c Wx W Y Fm σ H e δ') : Kes K c Wx W Y Fm1 σ1 H1 e δ' := fun σ' d v H' Fm' k f x' q1 q2 => h σ' d v H' Fm' (kp.tr k) f (x.tr x') q1 q2
theorem Ks.shift {r : Ss} {D : Ends} (kp : Kp c σ σ1) (x : Xt (Om Fm) (Om Fm1) H H1) (h : Ks K c Wx W Y Fm σ H r D) : Ks K c Wx W Y Fm1 σ1 H1 r D := by
  unfold Ks at h ⊢
  split at h
  · exact h
  · exact h.shift kp x
  · exact h.shift kp x
  · exact h.shift kp x
  · exact h.shift kp x
  · exact h.shift kp x
theorem Kes.ke {e : Xn} (h : Kes K c Wx W Y Fm σ H e δ') : Ke K c.sh Wx W Y Fm σ H e δ' := fun d v H' Fm' f x q1 q2 => h σ d v H' Fm' .refl f x q1 q2
/-- frozen outcomes are outcomes of the shape fz -/
theorem Kr.fz {R : VK} {t : T} (hr : c.rs = .fz) (h : Kr K c W Y Fm σ H t δ' R) : ∀ x H' Fm', Fr K c.sh W Y Fm' H' σ δ' → Xt (Om Fm) (Om Fm') H H' → Df K (Gw Y Fm' W) H' x t → R x H' := fun x H' Fm' f xt d =>
  h x σ H' Fm' [] .refl f (by rw [hr]; exact .fz d) ⟨xt.1, fun a z => z.elim (fun q => absurd q List.not_mem_nil) fun q => xt.2 a q⟩
end
section
variable {X : Cx} {K : PySem.W.Frag} {c : Cf} {Wx : WX} {st : Stmt} {rest : List Stmt} {F G : Sf} {e : Expr} {f : Dl → Rs} {pos : Pos}
theorem ms_nil : PSs X [] (SF K c Wx sNext) := pss_imp pss_nil fun D σ H ⟨W, Y, Fm, δ, fr, k⟩ => k σ H Fm .refl fr .refl
theorem ms_cons (h1 : PS X st (SF K c Wx F)) (h2 : PSs X rest (SF K c Wx G)) : PSs X (st :: rest) (SF K c Wx (sSeq F G)) := pss_imp (pss_cons h1 h2) fun D σ H ⟨W, Y, Fm, δ, fr, k⟩ => by
  refine ⟨W, Y, Fm, δ, fr, ?_⟩
  unfold sSeq at k
  cases q : F δ with
  | none => simp only [q] at k; exact k
  | some p =>
    obtain ⟨p, δ'⟩ := p
    cases p with
    | nx =>
      simp only [q] at k
      exact fun σ' H' Fm' kp f' x' => ⟨W, Y, Fm', δ', f', k.shift kp x'⟩
    | brk => simp only [q] at k; exact k
    | cont => simp only [q] at k; exact k
    | ret t => simp only [q] at k; exact k
    | exc e => simp only [q] at k; exact k
theorem ms_one (h1 : PS X st (SF K c Wx F)) : PSs X [st] (SF K c Wx F) := pss_one h1
theorem ms_pass : PS X (.Pass pos) (SF K c Wx sNext) := ps_imp ps_pass fun D σ H ⟨W, Y, Fm, δ, fr, k⟩ => k σ H Fm .refl fr .refl
theorem ms_doc {x : Str} {j : Nat} {p p' : Pos} : PS X (.Expr (.Constant (.str x) j p) p') (SF K c Wx sNext) := ps_imp ps_doc fun D σ H ⟨W, Y, Fm, δ, fr, k⟩ => k σ H Fm .refl fr .refl
theorem ms_break : PS X (.Break pos) (SF K c Wx sBrk) := ps_imp ps_break fun D σ H ⟨W, Y, Fm, δ, fr, k⟩ => k σ H Fm .refl fr .refl
theorem ms_continue : PS X (.Continue pos) (SF K c Wx sCont) := ps_imp ps_continue fun D σ H ⟨W, Y, Fm, δ, fr, k⟩ => k σ H Fm .refl fr .refl
theorem ms_set {x : Str} {pos' : Pos} (i : Nat) (hN : X.N.Nodup) (he : PE X e (TF K c.sh Wx f)) (hs : c.sh i = .fz := by rfl) (hp : c.pr i = false := by rfl) (hi : X.N[i]? = some x := by rfl) (hx : Loc X.env.scope x := by first | exact Or.inl rfl | exact Or.inr rfl)
    (hsw : swapsWith e (some (.Name x pos')) pos.line X.env = pure false := by rfl) (hf : X.fn x = true ∨ X.env.scope.names.lookup x = some .local := by first | exact .inl rfl | exact .inr rfl) :
    PS X (.Assign [.Name x pos'] e pos) (SF K c Wx (sSet i f)) := ps_imp (ps_set hN hi hx he hsw hf) fun D σ H ⟨W, Y, Fm, δ, fr, k⟩ => by
  refine ⟨W, Y, Fm, δ, fr, ?_⟩
  unfold sSet at k
  cases q : f δ with
  | none => simp only [q] at k; exact k
  | some p =>
    obtain ⟨p, δ'⟩ := p
    cases p with
    | error er => simp only [q] at k; exact Kes.ke k
    | ok t =>
      simp only [q] at k
      exact fun x H' Fm' f' x' d => k _ H' Fm' (Kp.set hp) (f'.set (f'.fz0 hs) (by rw [hs]; exact .inr (.fz d))) x'
/-- a lent thing gets a name -/
theorem ms_setV {x : Str} {pos' : Pos} {g : Qf} (i : Nat) (hN : X.N.Nodup) (he : PE X e (TQ K c.sh .vw g)) (hs : c.sh i = .vw := by rfl) (hp : c.pr i = false := by rfl) (hi : X.N[i]? = some x := by rfl) (hx : Loc X.env.scope x := by first | exact Or.inl rfl | exact Or.inr rfl)
    (hsw : swapsWith e (some (.Name x pos')) pos.line X.env = pure false := by rfl) (hf : X.fn x = true ∨ X.env.scope.names.lookup x = some .local := by first | exact .inl rfl | exact .inr rfl) :
    PS X (.Assign [.Name x pos'] e pos) (SF K c Wx (sSet i (qE g))) := ps_imp (ps_set hN hi hx he hsw hf) fun D σ H ⟨W, Y, Fm, δ, fr, k⟩ => by
  unfold sSet qE at k
  cases q : g δ with
  | none => simp only [q] at k; exact k.elim
  | some t =>
    simp only [q] at k
    exact ⟨W, Y, Fm, δ, t, fr, q, fun x H' ed d => k _ H' Fm (Kp.set hp) ((fr.ed0 ed).set (fr.vw0 hs) (.inl (.inl ⟨hs, rfl, d⟩))) ed.xt0⟩
/-- the slot i holds a new thing of one's own -/
theorem set_own {W : Addr → Prop} {Y F : List Addr} {Fm Fm' : Nat → List Addr} {σ : L2.St} {H H' : Hp} {δ' : Dl} {x : V} {t : T} {i : Nat} {N : L2.St → Hp → Prop} (hp : c.pr i = false) (k : i < δ'.length ∧ Kx K c W Y Fm σ H (δ'.set i (some t)) N) (f : Fr K c.sh W (F ++ Y) Fm' H' σ δ') (o : Ow K (Gw (F ++ Y) Fm' W) H' (c.sh i) F x t)
    (xt : Xt (Om Fm) (fun a => a ∈ F ∨ Om Fm' a) H H') : N (σ.set i (some x)) H' := by
  refine k.2 _ H' _ (Kp.set hp) (f.setO k.1 o) ⟨xt.1, fun a ⟨j, z⟩ => ?_⟩
  by_cases q : j = i
  · simp only [if_pos q] at z; exact xt.2 a (.inl z)
  · simp only [if_neg q] at z; exact xt.2 a (.inr ⟨j, z⟩)
def sSetN (i : Nat) (f : Dl → Rs) : Sf := fun δ => match f δ with
  | none => none
  | some (.error e, δ') => some (.exc e, δ')
  | some (.ok t, δ') => if i < δ'.length then some (.nx, δ'.set i (some t)) else none
theorem ms_setN {x : Str} {pos' : Pos} (i : Nat) (hN : X.N.Nodup) (he : PE X e (TN K c.sh (c.sh i) Wx f)) (hp : c.pr i = false := by rfl) (hi : X.N[i]? = some x := by rfl) (hx : Loc X.env.scope x := by first | exact Or.inl rfl | exact Or.inr rfl)
    (hsw : swapsWith e (some (.Name x pos')) pos.line X.env = pure false := by rfl) (hf : X.fn x = true ∨ X.env.scope.names.lookup x = some .local := by first | exact .inl rfl | exact .inr rfl) :
    PS X (.Assign [.Name x pos'] e pos) (SF K c Wx (sSetN i f)) := ps_imp (ps_set hN hi hx he hsw hf) fun D σ H ⟨W, Y, Fm, δ, fr, k⟩ => by
  refine ⟨W, Y, Fm, δ, fr, ?_⟩
  unfold sSetN at k
  cases q : f δ with
  | none => simp only [q] at k; exact k
  | some p =>
    obtain ⟨p, δ'⟩ := p
    cases p with
    | error er => simp only [q] at k; exact Kes.ke k
    | ok t =>
      simp only [q] at k
      split at k
      · rename_i hl
        exact fun x H' Fm' F f' o x' => set_own hp ⟨hl, k⟩ f' o x'
      · exact k.elim
theorem ms_expr (he : PE X e (TF K c.sh Wx f)) (hs : swapsWith e none pos.line X.env = pure false := by rfl) : PS X (.Expr e pos) (SF K c Wx (sDrop f)) := ps_imp (ps_expr he hs) fun D σ H ⟨W, Y, Fm, δ, fr, k⟩ => by
  refine ⟨W, Y, Fm, δ, fr, ?_⟩
  unfold sDrop at k
  cases q : f δ with
  | none => simp only [q] at k; exact k
  | some p =>
    obtain ⟨p, δ'⟩ := p
    cases p with
    | error er => simp only [q] at k; exact Kes.ke k
    | ok t =>
      simp only [q] at k
      exact fun x H' Fm' f' x' d => k _ H' Fm' .refl f' x'
theorem ms_ret (he : PE X e (TF K c.sh Wx f)) (hr : c.rs = .fz := by rfl) : PS X (.Return (some e) pos) (SF K c Wx (sRet f)) := ps_imp (ps_ret he) fun D σ H ⟨W, Y, Fm, δ, fr, k⟩ => by
  refine ⟨W, Y, Fm, δ, fr, ?_⟩
  unfold sRet at k
  cases q : f δ with
  | none => simp only [q] at k; exact k
  | some p =>
    obtain ⟨p, δ'⟩ := p
    cases p with
    | error er => simp only [q] at k; exact Kes.ke k
    | ok t =>
      simp only [q] at k
      exact Kr.fz hr k
theorem ms_retO (he : PE X e (TN K c.sh c.rs Wx f)) : PS X (.Return (some e) pos) (SF K c Wx (sRet f)) := ps_imp (ps_ret he) fun D σ H ⟨W, Y, Fm, δ, fr, k⟩ => by
  refine ⟨W, Y, Fm, δ, fr, ?_⟩
  unfold sRet at k
  cases q : f δ with
  | none => simp only [q] at k; exact k
  | some p =>
    obtain ⟨p, δ'⟩ := p
    cases p with
    | error er => simp only [q] at k; exact Kes.ke k
    | ok t =>
      simp only [q] at k
      exact fun x H' Fm' F f' o x' => k x σ H' Fm' F .refl f' o x'
/-- return of a thing of one's own that has a name -/
theorem ms_retV {i : Nat} (he : PE X e (tVar i)) (hs : c.sh i = c.rs := by rfl) (hn : c.rs.pln = true := by rfl) : PS X (.Return (some e) pos) (SF K c Wx (sRetV i)) := ps_imp (ps_ret he) fun D σ H ⟨W, Y, Fm, δ, fr, k⟩ => by
  unfold sRetV at k
  cases q : dAt δ i with
  | none => simp only [q] at k; exact k.elim
  | some t =>
    simp only [q] at k
    obtain ⟨v, h1, h2⟩ := fr.rel i t q
    rw [hs] at h2
    have o := h2.own hn
    have fd := fr.del i (some v)
    have es : σ.set i (some v) = σ := by
      refine List.ext_getElem? fun j => ?_
      by_cases z : j = i
      · subst z
        rw [List.getElem?_set_self (List.getElem?_eq_some_iff.mp h1).1, h1]
      · rw [List.getElem?_set_ne (fun w => z w.symm)]
    rw [es] at fd
    have hg : ∀ a, Gw (Fm i ++ Y) (fun j => if j = i then [] else Fm j) W a → Gw Y Fm W a := fun a z => z.imp (fun z => z.elim (fun z => (List.mem_append.mp z).elim (fun w => .inr ⟨i, w⟩) .inl) fun ⟨j, w⟩ => .inr ⟨j, by
      by_cases y : j = i
      · simp only [if_pos y] at w; exact absurd w List.not_mem_nil
      · simp only [if_neg y] at w; exact w⟩) id
    refine ⟨v, h1, k v σ H _ (Fm i) .refl fd (o.weak hg) ⟨.refl, fun a z => .inl ?_⟩⟩
    rcases z with z | ⟨j, z⟩
    · exact ⟨i, z⟩
    · by_cases y : j = i
      · simp only [if_pos y] at z; exact absurd z List.not_mem_nil
      · simp only [if_neg y] at z; exact ⟨j, z⟩
theorem ms_retN (hr : c.rs = .fz := by rfl) : PS X (.Return none pos) (SF K c Wx sRetN) := ps_imp ps_retN fun D σ H ⟨W, Y, Fm, δ, fr, k⟩ => Kr.fz hr k .non H Fm fr .refl (.sc rfl)
theorem ms_if {t : Expr} {a b : List Stmt} {g : Dl → Rb} (hc : PT X t (TFT K c.sh Wx g)) (ha : PSs X a (SF K c Wx F)) (hb : PSs X b (SF K c Wx G)) : PS X (.If t a b pos) (SF K c Wx (sIf g F G)) := ps_imp (ps_if hc ha hb) fun D σ H ⟨W, Y, Fm, δ, fr, k⟩ => by
  refine ⟨W, Y, Fm, δ, fr, ?_⟩
  unfold sIf at k
  cases q : g δ with
  | none => simp only [q] at k; exact k
  | some p =>
    obtain ⟨p, δ'⟩ := p
    cases p with
    | error er => simp only [q] at k; exact Kes.ke k
    | ok b =>
      cases b with
      | true => simp only [q] at k; exact fun H' Fm' f' x' => iteT ⟨W, Y, Fm', δ', f', k.shift .refl x'⟩
      | false => simp only [q] at k; exact fun H' Fm' f' x' => iteF ⟨W, Y, Fm', δ', f', k.shift .refl x'⟩
/-! ### expressions that choose -/
def ifE (g : Dl → Rb) (f1 f2 : Dl → Rs) : Dl → Rs := fun δ => match g δ with
  | none => none
  | some (.error e, δ') => some (.error e, δ')
  | some (.ok true, δ') => f1 δ'
  | some (.ok false, δ') => f2 δ'
def ifQ (g : Qb) (f1 f2 : Qf) : Qf := fun δ => match g δ with
  | none => none
  | some true => f1 δ
  | some false => f2 δ
variable {sh : Nat → Sh} {t a b : Expr}
theorem m_if {g : Dl → Rb} {f1 f2 : Dl → Rs} (hc : PT X t (TFT K sh Wx g)) (ha : PE X a (TF K sh Wx f1)) (hb : PE X b (TF K sh Wx f2)) : PE X (.IfExp t a b pos) (TF K sh Wx (ifE g f1 f2)) := pe_imp (pe_ifExp hc ha hb) fun σ H Q ⟨W, Y, Fm, δ, fr, k⟩ => by
  refine ⟨W, Y, Fm, δ, fr, ?_⟩
  unfold ifE at k
  cases q : g δ with
  | none => simp only [q] at k; exact k
  | some p =>
    obtain ⟨p, δ'⟩ := p
    cases p with
    | error er => simp only [q] at k; exact k
    | ok b =>
      cases b with
      | true => simp only [q] at k; exact fun H' Fm' f' x' => iteT ⟨W, Y, Fm', δ', f', k.shift x'⟩
      | false => simp only [q] at k; exact fun H' Fm' f' x' => iteF ⟨W, Y, Fm', δ', f', k.shift x'⟩
theorem m_ifN {s : Sh} {g : Dl → Rb} {f1 f2 : Dl → Rs} (hc : PT X t (TFT K sh Wx g)) (ha : PE X a (TN K sh s Wx f1)) (hb : PE X b (TN K sh s Wx f2)) : PE X (.IfExp t a b pos) (TN K sh s Wx (ifE g f1 f2)) := pe_imp (pe_ifExp hc ha hb) fun σ H Q ⟨W, Y, Fm, δ, fr, k⟩ => by
  refine ⟨W, Y, Fm, δ, fr, ?_⟩
  unfold ifE at k
  cases q : g δ with
  | none => simp only [q] at k; exact k
  | some p =>
    obtain ⟨p, δ'⟩ := p
    cases p with
    | error er => simp only [q] at k; exact k
    | ok b =>
      cases b with
      | true => simp only [q] at k; exact fun H' Fm' f' x' => iteT ⟨W, Y, Fm', δ', f', k.shift x'⟩
      | false => simp only [q] at k; exact fun H' Fm' f' x' => iteF ⟨W, Y, Fm', δ', f', k.shift x'⟩
theorem m_ifQ {m : Md} {g : Qb} {f1 f2 : Qf} (hc : PT X t (TQT K sh g)) (ha : PE X a (TQ K sh m f1)) (hb : PE X b (TQ K sh m f2)) : PE X (.IfExp t a b pos) (TQ K sh m (ifQ g f1 f2)) := pe_imp (pe_ifExp hc ha hb) fun σ H Q ⟨W, Y, Fm, δ, u, fr, e1, k⟩ => by
  unfold ifQ at e1
  cases q : g δ with
  | none => simp only [q] at e1; cases e1
  | some b =>
    cases b with
    | true => simp only [q] at e1; exact ⟨W, Y, Fm, δ, _, fr, q, fun H' ed => iteT ⟨W, Y, Fm, δ, u, fr.ed0 ed, e1, fun x H2 ed2 => k x H2 (ed.tr ed2 fun _ z => z.elim)⟩⟩
    | false => simp only [q] at e1; exact ⟨W, Y, Fm, δ, _, fr, q, fun H' ed => iteF ⟨W, Y, Fm, δ, u, fr.ed0 ed, e1, fun x H2 ed2 => k x H2 (ed.tr ed2 fun _ z => z.elim)⟩⟩
/-! ### slots and written things -/
def eV (i : Nat) : Qf := fun δ => dAt δ i
def eC (t : T) : Qf := fun _ => some t
theorem m_v (i : Nat) (h : PE X e (tVar i)) (hs : sh i = .fz := by rfl) : PE X e (TQ K sh .fz (eV i)) := pe_imp h fun σ H Q ⟨W, Y, Fm, δ, u, fr, e1, k⟩ => by
  obtain ⟨v, h1, h2⟩ := fr.var hs e1
  exact ⟨v, h1, k v H .refl h2⟩
theorem m_vv (i : Nat) (h : PE X e (tVar i)) (hs : sh i = .vw := by rfl) : PE X e (TQ K sh .vw (eV i)) := pe_imp h fun σ H Q ⟨W, Y, Fm, δ, u, fr, e1, k⟩ => by
  obtain ⟨v, h1, h2⟩ := fr.varV hs e1
  exact ⟨v, h1, k v H .refl h2⟩
/-- one's own, its parts frozen: read -/
theorem m_vc (i : Nat) (h : PE X e (tVar i)) (hs : (sh i).flat = true := by rfl) : PE X e (TQ K sh .ch (eV i)) := pe_imp h fun σ H Q ⟨W, Y, Fm, δ, u, fr, e1, k⟩ => by
  obtain ⟨v, h1, h2⟩ := fr.rel i u e1
  exact ⟨v, h1, k v H .refl ((h2.own (flat_pln hs)).vw hs)⟩
theorem m_vr (i : Nat) (h : PE X e (tVar i)) (hx : (sh i).nxc = true := by rfl) : PE X e (TQ K sh .rd (eV i)) := pe_imp h fun σ H Q ⟨W, Y, Fm, δ, u, fr, e1, k⟩ => by
  obtain ⟨v, h1, h2⟩ := fr.rel i u e1
  exact ⟨v, h1, k v H .refl (h2.rp hx)⟩
theorem m_c {v : V} (u : T) (h : PE X e (tC v)) (hs : Sc K v u) : PE X e (TQ K sh .fz (eC u)) := pe_imp h fun σ H Q ⟨W, Y, Fm, δ, t, fr, e1, k⟩ => by
  cases e1
  exact k v H .refl (.sc hs)
end
end NQ
namespace NQ
open PySem L2
/-! ### defs as functions over trees -/
inductive Ou where
  | ret (t : T) | exc (e : Xn)
abbrev Fo := Option (Ou × List T)
def Sh.isO : Sh → Bool
  | .fz => false
  | .vw => false
  | .xc .. => false
  | _ => true
def Sh.isF : Sh → Bool
  | .fz => true
  | _ => false
def Sh.isV : Sh → Bool
  | .vw => true
  | _ => false
mutual
def Sh.beq : Sh → Sh → Bool
  | .fz, .fz => true
  | .vw, .vw => true
  | .all a, .all b => Sh.beq a b
  | .opt a, .opt b => Sh.beq a b
  | .row a, .row b => beqL a b
  | .flds a, .flds b => beqF a b
  | _, _ => false
def beqL : List Sh → List Sh → Bool
  | [], [] => true
  | a :: r, b :: s => Sh.beq a b && beqL r s
  | _, _ => false
def beqF : List (Str × Sh) → List (Str × Sh) → Bool
  | [], [] => true
  | (x, a) :: r, (y, b) :: s => decide (x = y) && (Sh.beq a b && beqF r s)
  | _, _ => false
end
mutual
theorem Sh.beq_eq : ∀ {a b : Sh}, Sh.beq a b = true → a = b
  | .fz, b, h => by cases b <;> first | rfl | (simp [Sh.beq] at h)
  | .vw, b, h => by cases b <;> first | rfl | (simp [Sh.beq] at h)
  | .xc .., b, h => by cases b <;> (simp [Sh.beq] at h)
  | .all a, b, h => by cases b <;> first | (simp only [Sh.beq] at h; rw [Sh.beq_eq h]) | (simp [Sh.beq] at h)
  | .opt a, b, h => by cases b <;> first | (simp only [Sh.beq] at h; rw [Sh.beq_eq h]) | (simp [Sh.beq] at h)
  | .row a, b, h => by cases b <;> first | (simp only [Sh.beq] at h; rw [beqL_eq h]) | (simp [Sh.beq] at h)
  | .flds a, b, h => by cases b <;> first | (simp only [Sh.beq] at h; rw [beqF_eq h]) | (simp [Sh.beq] at h)
theorem beqL_eq : ∀ {a b : List Sh}, beqL a b = true → a = b
  | [], b, h => by cases b <;> first | rfl | (simp [beqL] at h)
  | a :: r, b, h => by
    cases b with
    | nil => simp [beqL] at h
    | cons b s =>
      simp only [beqL, Bool.and_eq_true] at h
      rw [Sh.beq_eq h.1, beqL_eq h.2]
theorem beqF_eq : ∀ {a b : List (Str × Sh)}, beqF a b = true → a = b
  | [], b, h => by cases b <;> first | rfl | (simp [beqF] at h)
  | (x, a) :: r, b, h => by
    cases b with
    | nil => simp [beqF] at h
    | cons b s =>
      obtain ⟨y, b⟩ := b
      simp only [beqF, Bool.and_eq_true, decide_eq_true_eq] at h
      rw [h.1, Sh.beq_eq h.2.1, beqF_eq h.2.2]
end
def pl : List Sh → Nat → Sh
  | [], _ => .fz
  | s :: _, 0 => s
  | _ :: r, i + 1 => pl r i
section
variable (K : PySem.W.Frag) (ps : List Sh) (rs : Sh)
def Kg (W : Addr → Prop) (Fm : Nat → List Addr) (vs : List V) (H : Hp) (r : Fo) (Q : VK) (E : XK) : Prop := match r with
  | none => False
  | some (.ret t, ts') => ∀ x H' Fm' F, Fr K (pl ps) W F Fm' H' (vs.map some) (ts'.map some) → Ow K (Gw F Fm' W) H' rs F x t → Xt (Om Fm) (fun a => a ∈ F ∨ Om Fm' a) H H' → Q x H'
  | some (.exc e, ts') => ∀ d v H' Fm', Fr K (pl ps) W [] Fm' H' (vs.map some) (ts'.map some) → Xt (Om Fm) (Om Fm') H H' → (¬ Gw [] Fm' W d ∧ H' d = some (.xd [(e.fld, v)])) → Df K (Gw [] Fm' W) H' v e.val → E (.ref (He.ga K e.cls)) (some d) H'
/-- a def that does what F does -/
def FS (F : List T → Fo) : Sp := fun vs H Q E => vs.length = ps.length ∧ ∃ W Fm ts, ts.length = ps.length ∧ Fr K (pl ps) W [] Fm H (vs.map some) (ts.map some) ∧ Kg K ps rs W Fm vs H (F ts) Q E
end
/-- the parameters of one's own as they stand at the end -/
def fin : List Sh → List T → Dl → Option (List T)
  | s :: ss, t :: ts, d :: δ => match fin ss ts δ with
    | none => none
    | some l => if s.isO then (match d with | some u => some (u :: l) | none => none) else some (t :: l)
  | [], [], _ => some []
  | _, _, _ => none
def Sh.nilOk : Sh → Bool
  | .fz => true
  | .opt _ => true
  | _ => false
def fnT (ps : List Sh) (m : Nat) (rs : Sh) (b : Sf) : List T → Fo := fun ts => match b (ts.map some ++ List.replicate m none) with
  | some (.nx, δ) => if rs.nilOk then (match fin ps ts δ with | some l => some (.ret .non, l) | none => none) else none
  | some (.ret t, δ) => match fin ps ts δ with | some l => some (.ret t, l) | none => none
  | some (.exc e, δ) => match fin ps ts δ with | some l => some (.exc e, l) | none => none
  | _ => none
def cfOf (ps ls : List Sh) (rs : Sh) : Cf := ⟨pl (ps ++ ls), rs, fun i => decide (i < ps.length) && (pl ps i).isO⟩
theorem pl_app : ∀ {ps ls : List Sh} {i : Nat}, i < ps.length → pl (ps ++ ls) i = pl ps i
  | [], _, _, h => absurd h (Nat.not_lt_zero _)
  | _ :: _, _, 0, _ => rfl
  | _ :: r, ls, i + 1, h => pl_app (ps := r) (Nat.lt_of_succ_lt_succ h)
theorem dAt_map : ∀ {ts : List T} {i : Nat}, dAt (ts.map some) i = ts[i]?
  | [], i => by simp [dAt]
  | _ :: _, 0 => rfl
  | _ :: r, i + 1 => by show dAt (r.map some) i = _; rw [dAt_map]; simp
theorem dAt_app : ∀ {a b : Dl} {i : Nat}, i < a.length → dAt (a ++ b) i = dAt a i
  | [], _, _, h => absurd h (Nat.not_lt_zero _)
  | _ :: _, _, 0, _ => rfl
  | _ :: r, b, i + 1, h => dAt_app (a := r) (Nat.lt_of_succ_lt_succ h)
theorem dAt_rep : ∀ {a : Dl} {m i : Nat}, a.length ≤ i → dAt (a ++ List.replicate m none) i = none
  | [], 0, _, _ => by simp [dAt]
  | [], m + 1, 0, _ => by simp [dAt, List.replicate_succ]
  | [], m + 1, i + 1, _ => by
    rw [List.nil_append, List.replicate_succ]
    show dAt (List.replicate m none) i = none
    exact dAt_rep (a := []) (m := m) (Nat.zero_le _)
  | _ :: r, m, 0, h => absurd h (Nat.not_succ_le_zero _)
  | _ :: r, m, i + 1, h => dAt_rep (a := r) (Nat.le_of_succ_le_succ h)
theorem fin_len : ∀ {ps : List Sh} {ts : List T} {δ : Dl} {l : List T}, fin ps ts δ = some l → l.length = ps.length ∧ ts.length = ps.length
  | [], [], _, _, e => by cases e; exact ⟨rfl, rfl⟩
  | [], _ :: _, _, _, e => by cases e
  | _ :: _, [], _, _, e => by cases e
  | _ :: _, _ :: _, [], _, e => by cases e
  | s :: ss, t :: ts, d :: δ, l, e => by
    unfold fin at e
    split at e
    · cases e
    · rename_i l' q
      obtain ⟨h1, h2⟩ := fin_len q
      split at e
      · split at e
        · cases e; exact ⟨by simp [h1], by simp [h2]⟩
        · cases e
      · cases e; exact ⟨by simp [h1], by simp [h2]⟩
theorem fin_at : ∀ {ps : List Sh} {ts : List T} {δ : Dl} {l : List T} {i : Nat} {u : T}, fin ps ts δ = some l → l[i]? = some u → i < ps.length ∧ (((pl ps i).isO = true ∧ dAt δ i = some u) ∨ ((pl ps i).isO = false ∧ ts[i]? = some u))
  | [], [], _, _, i, u, e, h => by cases e; simp at h
  | [], _ :: _, _, _, _, _, e, _ => by cases e
  | _ :: _, [], _, _, _, _, e, _ => by cases e
  | _ :: _, _ :: _, [], _, _, _, e, _ => by cases e
  | s :: ss, t :: ts, d :: δ, l, i, u, e, h => by
    unfold fin at e
    split at e
    · cases e
    · rename_i l' q
      cases i with
      | zero =>
        refine ⟨Nat.succ_pos _, ?_⟩
        split at e
        · rename_i ho
          split at e
          · cases e
            simp at h
            subst h
            exact .inl ⟨ho, rfl⟩
          · cases e
        · rename_i ho
          cases e
          simp at h
          subst h
          exact .inr ⟨by show s.isO = false; simpa using ho, rfl⟩
      | succ i =>
        have h' : l'[i]? = some u := by
          split at e
          · split at e
            · cases e; simpa using h
            · cases e
          · cases e; simpa using h
        obtain ⟨k1, k2⟩ := fin_at q h'
        exact ⟨Nat.succ_lt_succ k1, k2⟩
theorem isO_ne {s : Sh} (h : s.isO = true) : s.pln = true := by cases s <;> first | rfl | cases h
/-- the frame a caller finds behind a def -/
theorem fr_out {K : PySem.W.Frag} {ps ls : List Sh} {rs : Sh} {W : Addr → Prop} {Y : List Addr} {Fm Fm' : Nat → List Addr} {H H' : Hp} {vs : List V} {ts l : List T} {σ' : L2.St} {δ' : Dl} {m : Nat} (hv : vs.length = ps.length)
    (f0 : Fr K (pl ps) W [] Fm H (vs.map some) (ts.map some)) (kp : Kp (cfOf ps ls rs) (vs.map some ++ List.replicate m none) σ') (f' : Fr K (cfOf ps ls rs).sh W Y Fm' H' σ' δ') (xt : Xt (Om Fm) (fun a => a ∈ Y ∨ Om Fm' a) H H') (hf : fin ps ts δ' = some l) :
    Fr K (pl ps) W Y (fun i => if decide (i < ps.length) && (pl ps i).isO then Fm' i else []) H' (vs.map some) (l.map some) := by
  obtain ⟨l1, l2⟩ := fin_len hf
  have hm : ∀ i a, (a ∈ if (decide (i < ps.length) && (pl ps i).isO) = true then Fm' i else []) → a ∈ Fm' i := fun i a h => by
    split at h
    · exact h
    · exact absurd h List.not_mem_nil
  have hg : ∀ a, Gm Y (fun i => if decide (i < ps.length) && (pl ps i).isO then Fm' i else []) a → Gm Y Fm' a := fun a h => h.imp id fun ⟨i, z⟩ => ⟨i, hm i a z⟩
  have hw : ∀ a, Gw Y (fun i => if decide (i < ps.length) && (pl ps i).isO then Fm' i else []) W a → Gw Y Fm' W a := fun a h => h.imp (hg a) id
  have gm : ∀ a, Gm Y Fm' a → Gm [] Fm a ∨ H a = none := fun a h => (xt.2 a h).imp .inr id
  have gw : ∀ a, Gw Y Fm' W a → Gw [] Fm W a ∨ H a = none := fun a h => h.elim (fun z => (gm a z).imp .inl id) fun z => .inl (.inr z)
  refine ⟨fun i u e => ?_, fun i e => ?_, fun i => ?_, fun i j a n q q2 => f'.dj i j a n (hm i a q) (hm j a q2), fun i a q => f'.dw i a (hm i a q), f'.wl, by simp [l1, hv], f'.xn, fun i a q q2 => f'.xd i a q (hm i a q2), f'.xw, f'.xl⟩
  · rw [dAt_map] at e
    obtain ⟨k1, k2⟩ := fin_at hf e
    have hlt : i < vs.length := by rw [hv]; exact k1
    rcases k2 with ⟨ho, k2⟩ | ⟨ho, k2⟩
    · obtain ⟨v, h1, h2⟩ := f'.rel i u k2
      have hp : (cfOf ps ls rs).pr i = true := by show (decide (i < ps.length) && (pl ps i).isO) = true; rw [decide_eq_true k1, ho]; rfl
      have e1 := kp i hp
      rw [h1, List.getElem?_append_left (by simpa using hlt)] at e1
      refine ⟨v, e1.symm, ?_⟩
      have e2 : (if (decide (i < ps.length) && (pl ps i).isO) = true then Fm' i else []) = Fm' i := by rw [decide_eq_true k1, ho]; rfl
      simp only [e2]
      rw [show (cfOf ps ls rs).sh i = pl ps i from pl_app k1] at h2
      exact h2.weak hw hg
    · have e0 : dAt (ts.map some) i = some u := by rw [dAt_map]; exact k2
      obtain ⟨v, h1, h2⟩ := f0.rel i u e0
      refine ⟨v, h1, ?_⟩
      have e2 : (if (decide (i < ps.length) && (pl ps i).isO) = true then Fm' i else []) = [] := by rw [ho, Bool.and_false]; rfl
      simp only [e2]
      have fe : Fm i = [] := by
        cases s : pl ps i with
        | fz => rw [s] at h2; exact h2.fz.2
        | vw => rw [s] at h2; exact h2.vw.2
        | xc _ _ _ _ => rw [s] at h2; exact h2.xc.1
        | _ => rw [s] at ho; cases ho
      rw [fe] at h2
      exact h2.step xt.1 (fun a z => .inl (.inr z)) (fun a z => gw a (hw a z)) (fun a z => gm a (hg a z)) fun _ z => absurd z List.not_mem_nil
  · by_cases hi : i < ps.length
    · rw [dAt_map] at e
      have : i < l.length := by rw [l1]; exact hi
      rw [List.getElem?_eq_getElem this] at e
      cases e
    · simp only [decide_eq_false hi, Bool.false_and, Bool.false_eq_true, if_false]
  · show List.Nodup (if (decide (i < ps.length) && (pl ps i).isO) = true then Fm' i else [])
    split
    · exact f'.nd i
    · exact List.nodup_nil
/-- a def's body does what its function does -/
theorem fn_in {K : PySem.W.Frag} {ps ls : List Sh} {rs : Sh} {b : Sf} {m : Nat} {vs : List V} {H : Hp} {Q : VK} {E : XK} (h : FS K ps rs (fnT ps m rs b) vs H Q E) :
    SF K (cfOf ps ls rs) (fun cls d _ H => E cls d H) b { nx := fun _ H' => Q .non H', rt := Q } (vs.map some ++ List.replicate m none) H := by
  obtain ⟨hv, W, Fm, ts, hl, f0, k⟩ := h
  have fs : Fr K (cfOf ps ls rs).sh W [] Fm H (vs.map some ++ List.replicate m none) (ts.map some ++ List.replicate m none) := by
    refine ⟨fun i u e => ?_, fun i e => ?_, f0.nd, f0.dj, f0.dw, f0.wl, by simp [hv, hl], f0.xn, f0.xd, f0.xw, f0.xl⟩
    · by_cases hi : i < ps.length
      · rw [dAt_app (by simpa [hl] using hi)] at e
        obtain ⟨v, h1, h2⟩ := f0.rel i u e
        refine ⟨v, by rw [List.getElem?_append_left (by simpa [hv] using hi)]; exact h1, ?_⟩
        rw [show (cfOf ps ls rs).sh i = pl ps i from pl_app hi]
        exact h2
      · rw [dAt_rep (by simp [hl]; omega)] at e
        cases e
    · by_cases hi : i < ps.length
      · rw [dAt_app (by simpa [hl] using hi)] at e
        exact f0.un i e
      · refine f0.un i ?_
        rw [dAt_map]
        exact List.getElem?_eq_none_iff.mpr (by omega)
  refine ⟨W, [], Fm, _, fs, ?_⟩
  unfold fnT at k
  cases q : b (ts.map some ++ List.replicate m none) with
  | none => simp only [q] at k; exact k
  | some p =>
    obtain ⟨p, δ⟩ := p
    cases p with
    | brk => simp only [q] at k; exact k.elim
    | cont => simp only [q] at k; exact k.elim
    | nx =>
      simp only [q] at k
      split at k
      · rename_i ho
        split at k
        · rename_i l hf
          intro σ' H' Fm' kp f' x'
          have fo := fr_out hv f0 kp f' ⟨x'.1, fun a z => z.elim (fun w => absurd w List.not_mem_nil) fun w => x'.2 a w⟩ hf
          refine k .non H' _ [] fo ?_ ⟨x'.1, fun a z => ?_⟩
          · cases hr : rs with
            | fz => exact .fz (.sc rfl)
            | opt s => exact .optN
            | _ => rw [hr] at ho; cases ho
          · rcases z with z | ⟨i, z⟩
            · exact absurd z List.not_mem_nil
            · refine x'.2 a ⟨i, ?_⟩
              simp only at z
              split at z
              · exact z
              · exact absurd z List.not_mem_nil
        · exact k.elim
      · exact k.elim
    | ret t =>
      simp only [q] at k
      split at k
      · rename_i l hf
        intro x σ' H' Fm' F kp f' o x'
        rw [List.append_nil] at f' o
        have fo := fr_out hv f0 kp f' x' hf
        refine k x H' _ F fo (o.weak fun a z => z.imp (fun z => z.imp id fun ⟨i, w⟩ => ⟨i, ?_⟩) id) ⟨x'.1, fun a z => x'.2 a (z.imp id fun ⟨i, w⟩ => ⟨i, ?_⟩)⟩
        · simp only at w
          split at w
          · exact w
          · exact absurd w List.not_mem_nil
        · simp only at w
          split at w
          · exact w
          · exact absurd w List.not_mem_nil
      · exact k.elim
    | exc e =>
      simp only [q] at k
      split at k
      · rename_i l hf
        intro σ' d v H' Fm' kp f' x' hd dv
        have fo := fr_out hv f0 kp f' ⟨x'.1, fun a z => z.elim (fun w => absurd w List.not_mem_nil) fun w => x'.2 a w⟩ hf
        have sub : ∀ a, Om (fun i => if (decide (i < ps.length) && (pl ps i).isO) = true then Fm' i else []) a → Om Fm' a := fun a ⟨i, w⟩ => ⟨i, by
          simp only at w
          split at w
          · exact w
          · exact absurd w List.not_mem_nil⟩
        have gw : ∀ a, Gw [] (fun i => if (decide (i < ps.length) && (pl ps i).isO) = true then Fm' i else []) W a → Gw [] Fm' W a := fun a z => z.imp (fun z => z.imp id (sub a)) id
        exact k d v H' _ fo ⟨x'.1, fun a w => x'.2 a (sub a w)⟩ ⟨fun z => hd.1 (gw d z), hd.2⟩ (dv.weak gw)
      · exact k.elim
end NQ
namespace NQ
open PySem L2
/-! ### calls -/
def skO : List Opd → List (Option Nat)
  | [] => []
  | .var i :: r => some i :: skO r
  | .val _ :: r => none :: skO r
def skL : List (Nat ⊕ T) → List (Option Nat)
  | [] => []
  | .inl i :: r => some i :: skL r
  | .inr _ :: r => none :: skL r
def owns : List Sh → List (Option Nat) → List Nat
  | s :: ss, some i :: k => if s.isO then i :: owns ss k else owns ss k
  | _ :: ss, none :: k => owns ss k
  | _, _ => []
def callB (sh : Nat → Sh) : List Sh → List (Option Nat) → List Nat → Bool
  | [], [], _ => true
  | s :: ss, some i :: k, o => (if s.isO then Sh.beq (sh i) s else s.isV && (!o.contains i && (sh i).nxc)) && callB sh ss k o
  | s :: ss, none :: k, o => (s.isF || s.isV) && callB sh ss k o
  | _, _, _ => false
/-- which variable of one's own goes to the parameter j -/
def ownAt : List Sh → List (Option Nat) → Nat → Option Nat
  | s :: _, some i :: _, 0 => if s.isO then some i else none
  | _ :: ss, _ :: k, j + 1 => ownAt ss k j
  | _, _, _ => none
def posOf : List Sh → List (Option Nat) → Nat → Nat
  | s :: ss, some i :: k, n => if s.isO = true ∧ i = n then 0 else posOf ss k n + 1
  | _ :: ss, none :: k, n => posOf ss k n + 1
  | _, _, _ => 0
def wb : List Sh → List (Option Nat) → List T → Dl → Dl
  | s :: ss, some i :: k, t :: ts, δ => wb ss k ts (if s.isO then δ.set i (some t) else δ)
  | _ :: ss, none :: k, _ :: ts, δ => wb ss k ts δ
  | _, _, _, δ => δ
theorem own_pos : ∀ {ss : List Sh} {k : List (Option Nat)} {i : Nat}, i ∈ owns ss k → ownAt ss k (posOf ss k i) = some i
  | [], _, _, h => by simp [owns] at h
  | _ :: _, [], _, h => by simp [owns] at h
  | s :: ss, some n :: k, i, h => by
    unfold owns at h
    by_cases ho : s.isO = true
    · rw [if_pos ho] at h
      by_cases e : n = i
      · have : posOf (s :: ss) (some n :: k) i = 0 := by unfold posOf; rw [if_pos ⟨ho, e⟩]
        rw [this]
        show (if s.isO = true then some n else none) = some i
        rw [if_pos ho, e]
      · have h2 : i ∈ owns ss k := (List.mem_cons.mp h).elim (fun z => absurd z.symm e) id
        have : posOf (s :: ss) (some n :: k) i = posOf ss k i + 1 := by rw [posOf, if_neg (fun z => e z.2)]
        rw [this]
        exact own_pos h2
    · rw [if_neg ho] at h
      have : posOf (s :: ss) (some n :: k) i = posOf ss k i + 1 := by rw [posOf, if_neg (fun z => ho z.1)]
      rw [this]
      exact own_pos h
  | s :: ss, none :: k, i, h => by
    unfold owns at h
    exact own_pos (ss := ss) (k := k) h
theorem own_mem : ∀ {ss : List Sh} {k : List (Option Nat)} {j i : Nat}, ownAt ss k j = some i → i ∈ owns ss k
  | [], _, _, _, h => by simp [ownAt] at h
  | _ :: _, [], _, _, h => by simp [ownAt] at h
  | s :: ss, some n :: k, 0, i, h => by
    unfold ownAt at h
    unfold owns
    split at h
    · rename_i ho; cases h; rw [if_pos ho]; exact List.mem_cons_self ..
    · cases h
  | s :: ss, some n :: k, j + 1, i, h => by
    have := own_mem (ss := ss) (k := k) (j := j) h
    unfold owns
    split
    · exact List.mem_cons_of_mem _ this
    · exact this
  | s :: ss, none :: k, 0, i, h => by simp [ownAt] at h
  | s :: ss, none :: k, j + 1, i, h => by
    unfold owns
    exact own_mem (ss := ss) (k := k) (j := j) h
theorem own_inj : ∀ {ss : List Sh} {k : List (Option Nat)} {j j' i : Nat}, (owns ss k).Nodup → ownAt ss k j = some i → ownAt ss k j' = some i → j = j'
  | [], _, _, _, _, _, h, _ => by simp [ownAt] at h
  | _ :: _, [], _, _, _, _, h, _ => by simp [ownAt] at h
  | s :: ss, some n :: k, j, j', i, nd, h, h' => by
    unfold owns at nd
    cases j with
    | zero =>
      cases j' with
      | zero => rfl
      | succ j' =>
        have m := own_mem (ss := ss) (k := k) (j := j') h'
        unfold ownAt at h
        split at h
        · rename_i ho
          cases h
          rw [if_pos ho] at nd
          exact absurd m (List.nodup_cons.mp nd).1
        · cases h
    | succ j =>
      cases j' with
      | zero =>
        have m := own_mem (ss := ss) (k := k) (j := j) h
        unfold ownAt at h'
        split at h'
        · rename_i ho
          cases h'
          rw [if_pos ho] at nd
          exact absurd m (List.nodup_cons.mp nd).1
        · cases h'
      | succ j' =>
        have nd' : (owns ss k).Nodup := by
          split at nd
          · exact (List.nodup_cons.mp nd).2
          · exact nd
        rw [own_inj nd' (show ownAt ss k j = some i from h) (show ownAt ss k j' = some i from h')]
  | s :: ss, none :: k, j, j', i, nd, h, h' => by
    unfold owns at nd
    cases j with
    | zero => simp [ownAt] at h
    | succ j =>
      cases j' with
      | zero => simp [ownAt] at h'
      | succ j' => rw [own_inj nd (show ownAt ss k j = some i from h) (show ownAt ss k j' = some i from h')]
theorem callB_own {sh : Nat → Sh} {o : List Nat} : ∀ {ss : List Sh} {k : List (Option Nat)} {j i : Nat}, callB sh ss k o = true → ownAt ss k j = some i → sh i = pl ss j ∧ (pl ss j).isO = true
  | [], _, _, _, _, h => by simp [ownAt] at h
  | _ :: _, [], _, _, _, h => by simp [ownAt] at h
  | s :: ss, some n :: k, 0, i, c, h => by
    unfold callB at c
    rw [Bool.and_eq_true] at c
    unfold ownAt at h
    split at h
    · rename_i ho
      cases h
      rw [if_pos ho] at c
      exact ⟨Sh.beq_eq c.1, ho⟩
    · cases h
  | s :: ss, some n :: k, j + 1, i, c, h => by
    unfold callB at c
    rw [Bool.and_eq_true] at c
    exact callB_own (ss := ss) (k := k) (j := j) c.2 h
  | s :: ss, none :: k, 0, i, _, h => by simp [ownAt] at h
  | s :: ss, none :: k, j + 1, i, c, h => by
    unfold callB at c
    rw [Bool.and_eq_true] at c
    exact callB_own (ss := ss) (k := k) (j := j) c.2 h
theorem callB_len {sh : Nat → Sh} {o : List Nat} : ∀ {ss : List Sh} {k : List (Option Nat)}, callB sh ss k o = true → ss.length = k.length
  | [], [], _ => rfl
  | [], _ :: _, h => by simp [callB] at h
  | _ :: _, [], h => by simp [callB] at h
  | s :: ss, some n :: k, h => by
    unfold callB at h
    rw [Bool.and_eq_true] at h
    rw [List.length_cons, List.length_cons, callB_len h.2]
  | s :: ss, none :: k, h => by
    unfold callB at h
    rw [Bool.and_eq_true] at h
    rw [List.length_cons, List.length_cons, callB_len h.2]
/-- what a parameter that is not one's own may be -/
theorem callB_oth {sh : Nat → Sh} {o : List Nat} : ∀ {ss : List Sh} {k : List (Option Nat)} {j : Nat} {x : Option Nat}, callB sh ss k o = true → k[j]? = some x → ownAt ss k j = none → (∃ i, x = some i ∧ pl ss j = .vw ∧ i ∉ o ∧ (sh i).nxc = true) ∨ (x = none ∧ (pl ss j = .fz ∨ pl ss j = .vw))
  | [], [], _, _, _, h, _ => by simp at h
  | [], _ :: _, _, _, c, _, _ => by simp [callB] at c
  | _ :: _, [], _, _, c, _, _ => by simp [callB] at c
  | s :: ss, some n :: k, 0, x, c, h, hn => by
    simp at h
    subst h
    unfold callB at c
    rw [Bool.and_eq_true] at c
    unfold ownAt at hn
    by_cases ho : s.isO = true
    · rw [if_pos ho] at hn; cases hn
    · have c1 := c.1
      rw [if_neg ho, Bool.and_eq_true, Bool.and_eq_true] at c1
      refine .inl ⟨n, rfl, ?_, by simpa using c1.2.1, c1.2.2⟩
      show s = .vw
      cases s <;> first | rfl | (simp [Sh.isV] at c1)
  | s :: ss, some n :: k, j + 1, x, c, h, hn => by
    unfold callB at c
    rw [Bool.and_eq_true] at c
    exact callB_oth (ss := ss) (k := k) (j := j) c.2 (by simpa using h) hn
  | s :: ss, none :: k, 0, x, c, h, hn => by
    simp at h
    subst h
    unfold callB at c
    rw [Bool.and_eq_true, Bool.or_eq_true] at c
    refine .inr ⟨rfl, ?_⟩
    show s = .fz ∨ s = .vw
    rcases c.1 with z | z
    · left; cases s <;> first | rfl | cases z
    · right; cases s <;> first | rfl | cases z
  | s :: ss, none :: k, j + 1, x, c, h, hn => by
    unfold callB at c
    rw [Bool.and_eq_true] at c
    exact callB_oth (ss := ss) (k := k) (j := j) c.2 (by simpa using h) hn
theorem wb_len : ∀ {ss : List Sh} {k : List (Option Nat)} {ts : List T} {δ : Dl}, (wb ss k ts δ).length = δ.length
  | [], _, _, _ => by simp [wb]
  | _ :: _, [], _, _ => by simp [wb]
  | s :: ss, some n :: k, [], δ => by simp [wb]
  | s :: ss, none :: k, [], δ => by simp [wb]
  | s :: ss, some n :: k, t :: ts, δ => by
    unfold wb
    rw [wb_len]
    split
    · simp
    · rfl
  | s :: ss, none :: k, t :: ts, δ => by
    unfold wb
    exact wb_len
theorem wb_out : ∀ {ss : List Sh} {k : List (Option Nat)} {ts : List T} {δ : Dl} {i : Nat}, i ∉ owns ss k → dAt (wb ss k ts δ) i = dAt δ i
  | [], _, _, _, _, _ => by simp [wb]
  | _ :: _, [], _, _, _, _ => by simp [wb]
  | s :: ss, some n :: k, [], δ, _, _ => by simp [wb]
  | s :: ss, none :: k, [], δ, _, _ => by simp [wb]
  | s :: ss, some n :: k, t :: ts, δ, i, h => by
    unfold owns at h
    unfold wb
    by_cases ho : s.isO = true
    · rw [if_pos ho] at h ⊢
      rw [wb_out (fun z => h (List.mem_cons_of_mem _ z))]
      exact dAt_set_ne fun z => h (by rw [z]; exact List.mem_cons_self ..)
    · rw [if_neg ho] at h ⊢
      exact wb_out h
  | s :: ss, none :: k, t :: ts, δ, i, h => by
    unfold owns at h
    unfold wb
    exact wb_out h
theorem wb_in : ∀ {ss : List Sh} {k : List (Option Nat)} {ts : List T} {δ : Dl} {i j : Nat} {t : T}, (owns ss k).Nodup → ownAt ss k j = some i → ts[j]? = some t → i < δ.length → dAt (wb ss k ts δ) i = some t
  | [], _, _, _, _, _, _, _, h, _, _ => by simp [ownAt] at h
  | _ :: _, [], _, _, _, _, _, _, h, _, _ => by simp [ownAt] at h
  | s :: ss, some n :: k, [], δ, _, _, _, _, _, h, _ => by simp at h
  | s :: ss, none :: k, [], δ, _, _, _, _, _, h, _ => by simp at h
  | s :: ss, some n :: k, u :: ts, δ, i, 0, t, nd, h, e, l => by
    unfold ownAt at h
    unfold owns at nd
    unfold wb
    simp at e
    subst e
    split at h
    · rename_i ho
      cases h
      rw [if_pos ho] at nd ⊢
      rw [wb_out (List.nodup_cons.mp nd).1]
      exact dAt_set_self l
    · cases h
  | s :: ss, some n :: k, u :: ts, δ, i, j + 1, t, nd, h, e, l => by
    unfold owns at nd
    unfold wb
    have nd' : (owns ss k).Nodup := by
      split at nd
      · exact (List.nodup_cons.mp nd).2
      · exact nd
    refine wb_in (j := j) nd' h (by simpa using e) ?_
    split
    · simpa using l
    · exact l
  | s :: ss, none :: k, u :: ts, δ, i, 0, t, nd, h, e, l => by simp [ownAt] at h
  | s :: ss, none :: k, u :: ts, δ, i, j + 1, t, nd, h, e, l => by
    unfold owns at nd
    unfold wb
    exact wb_in (j := j) nd h (by simpa using e) l
theorem runs_sk : ∀ {os : List Opd} {δ δ' : Dl} {l : List (Nat ⊕ T)}, runs os δ = some (.ok l, δ') → skL l = skO os
  | [], _, _, _, e => by cases e; rfl
  | .var j :: r, δ, δ', l, e => by
    unfold runs at e
    split at e
    · cases e
    · split at e
      · cases e
      · cases e
      · rename_i l' δ'' q
        cases e
        show some j :: skL l' = some j :: skO r
        rw [runs_sk q]
  | .val f :: r, δ, δ', l, e => by
    unfold runs at e
    split at e
    · cases e
    · cases e
    · split at e
      · cases e
      · cases e
      · rename_i l' δ'' q
        cases e
        show none :: skL l' = none :: skO r
        rw [runs_sk q]
theorem skL_len : ∀ {l : List (Nat ⊕ T)}, (skL l).length = l.length
  | [] => rfl
  | .inl _ :: r => by show (skL r).length + 1 = _; rw [skL_len]; rfl
  | .inr _ :: r => by show (skL r).length + 1 = _; rw [skL_len]; rfl
theorem ArgR.len {K : PySem.W.Frag} {G : Addr → Prop} {H : Hp} {σ : L2.St} : ∀ {l : List (Nat ⊕ T)} {xs : List V}, ArgR K G H σ l xs → xs.length = l.length
  | _, _, .nil => rfl
  | _, _, .var _ r => by rw [List.length_cons, List.length_cons, ArgR.len r]
  | _, _, .val _ r => by rw [List.length_cons, List.length_cons, ArgR.len r]
theorem res_len : ∀ {l : List (Nat ⊕ T)} {δ : Dl} {ts : List T}, res l δ = some ts → ts.length = l.length
  | [], _, _, e => by cases e; rfl
  | .inl i :: r, δ, ts, e => by
    unfold res at e
    split at e
    · rename_i q2; cases e; rw [List.length_cons, List.length_cons, res_len q2]
    · cases e
  | .inr t :: r, δ, ts, e => by
    unfold res at e
    split at e
    · rename_i q2; cases e; rw [List.length_cons, List.length_cons, res_len q2]
    · cases e
/-- an operand: a variable, or a value -/
theorem arg_at {K : PySem.W.Frag} {G : Addr → Prop} {H : Hp} {σ : L2.St} {δ : Dl} : ∀ {l : List (Nat ⊕ T)} {xs : List V} {ts : List T} {j : Nat} {t : T}, ArgR K G H σ l xs → res l δ = some ts → ts[j]? = some t → ∃ x, xs[j]? = some x ∧ ((∃ i, (skL l)[j]? = some (some i) ∧ σ[i]? = some (some x) ∧ dAt δ i = some t) ∨ ((skL l)[j]? = some none ∧ Df K G H x t))
  | _, _, _, j, t, .nil, e, h => by cases e; simp at h
  | _, _, ts, j, t, .var (i := i) hv r, e, h => by
    unfold res at e
    split at e
    · rename_i u us q1 q2
      cases e
      cases j with
      | zero =>
        simp at h
        subst h
        exact ⟨_, rfl, .inl ⟨i, rfl, hv, q1⟩⟩
      | succ j =>
        obtain ⟨x, h1, h2⟩ := arg_at r q2 (j := j) (by simpa using h)
        refine ⟨x, by simpa using h1, h2.imp (fun ⟨n, k1, k2⟩ => ⟨n, ?_, k2⟩) fun ⟨k1, k2⟩ => ⟨?_, k2⟩⟩
        · show (some i :: skL _)[j + 1]? = _; simpa using k1
        · show (some i :: skL _)[j + 1]? = _; simpa using k1
    · cases e
  | _, _, ts, j, t, .val hd r, e, h => by
    unfold res at e
    split at e
    · rename_i us q2
      cases e
      cases j with
      | zero =>
        simp at h
        subst h
        exact ⟨_, rfl, .inr ⟨rfl, hd⟩⟩
      | succ j =>
        obtain ⟨x, h1, h2⟩ := arg_at r q2 (j := j) (by simpa using h)
        refine ⟨x, by simpa using h1, h2.imp (fun ⟨n, k1, k2⟩ => ⟨n, ?_, k2⟩) fun ⟨k1, k2⟩ => ⟨?_, k2⟩⟩
        · show (none :: skL _)[j + 1]? = _; simpa using k1
        · show (none :: skL _)[j + 1]? = _; simpa using k1
    · cases e
theorem own_sk : ∀ {ss : List Sh} {k : List (Option Nat)} {j i : Nat}, ownAt ss k j = some i → k[j]? = some (some i)
  | [], _, _, _, h => by simp [ownAt] at h
  | _ :: _, [], _, _, h => by simp [ownAt] at h
  | s :: ss, some n :: k, 0, i, h => by
    unfold ownAt at h
    split at h
    · cases h; rfl
    · cases h
  | s :: ss, some n :: k, j + 1, i, h => by simpa using own_sk (ss := ss) (k := k) (j := j) h
  | s :: ss, none :: k, 0, i, h => by simp [ownAt] at h
  | s :: ss, none :: k, j + 1, i, h => by simpa using own_sk (ss := ss) (k := k) (j := j) h
end NQ
namespace NQ
open PySem L2
section
variable {K : PySem.W.Frag} {sh : Nat → Sh} {W : Addr → Prop} {Y F : List Addr} {Fm Fm' : Nat → List Addr} {H H' : Hp} {σ : L2.St} {δ : Dl} {ps : List Sh} {sk : List (Option Nat)} {xs : List V} {ts ts' : List T} {l : List (Nat ⊕ T)}
def Wc (ps : List Sh) (sk : List (Option Nat)) (W : Addr → Prop) (Y : List Addr) (Fm : Nat → List Addr) : Addr → Prop := fun a => a ∈ Y ∨ W a ∨ ∃ i, i ∉ owns ps sk ∧ a ∈ Fm i
def Fc (ps : List Sh) (sk : List (Option Nat)) (Fm : Nat → List Addr) : Nat → List Addr := fun j => match ownAt ps sk j with
  | some i => Fm i
  | none => []
def Fb (ps : List Sh) (sk : List (Option Nat)) (Fm Fm' : Nat → List Addr) : Nat → List Addr := fun i => if i ∈ owns ps sk then Fm' (posOf ps sk i) else Fm i
theorem Fc_mem {j : Nat} {a : Addr} (h : a ∈ Fc ps sk Fm j) : ∃ i, ownAt ps sk j = some i ∧ a ∈ Fm i := by
  unfold Fc at h
  split at h
  · rename_i i q; exact ⟨i, q, h⟩
  · exact absurd h List.not_mem_nil
theorem Fb_mem {i : Nat} {a : Addr} (h : a ∈ Fb ps sk Fm Fm' i) : (i ∈ owns ps sk ∧ a ∈ Fm' (posOf ps sk i)) ∨ (i ∉ owns ps sk ∧ a ∈ Fm i) := by
  unfold Fb at h
  split at h
  · rename_i q; exact .inl ⟨q, h⟩
  · rename_i q; exact .inr ⟨q, h⟩
/-- the callee's frame -/
theorem call_in (f : Fr K sh W Y Fm H σ δ) (ar : ArgR K (Gw Y Fm W) H σ l xs) (rs : res l δ = some ts) (hc : callB sh ps (skL l) (owns ps (skL l)) = true) (nd : (owns ps (skL l)).Nodup) :
    Fr K (pl ps) (Wc ps (skL l) W Y Fm) [] (Fc ps (skL l) Fm) H (xs.map some) (ts.map some) := by
  have gw : ∀ a, Gw [] (Fc ps (skL l) Fm) (Wc ps (skL l) W Y Fm) a → Gw Y Fm W a := fun a z => by
    rcases z with (z | ⟨j, z⟩) | z | z | ⟨i, _, z⟩
    · exact absurd z List.not_mem_nil
    · obtain ⟨i, _, h⟩ := Fc_mem z; exact .inl (.inr ⟨i, h⟩)
    · exact .inl (.inl z)
    · exact .inr z
    · exact .inl (.inr ⟨i, z⟩)
  have gm : ∀ a, Gm [] (Fc ps (skL l) Fm) a → Gm Y Fm a := fun a z => by
    rcases z with z | ⟨j, z⟩
    · exact absurd z List.not_mem_nil
    · obtain ⟨i, _, h⟩ := Fc_mem z; exact .inr ⟨i, h⟩
  refine ⟨fun j t e => ?_, fun j e => ?_, fun j => ?_, fun j j' a n q q2 => ?_, fun j a q z => ?_, fun a z => ?_, by simp [res_len rs, ar.len], List.nodup_nil, fun _ _ z => absurd z List.not_mem_nil, fun _ z => absurd z List.not_mem_nil, fun _ z => absurd z List.not_mem_nil⟩
  · rw [dAt_map] at e
    obtain ⟨x, hx, h⟩ := arg_at ar rs e
    refine ⟨x, by simp [hx], ?_⟩
    cases ho : ownAt ps (skL l) j with
    | some i =>
      obtain ⟨h1, h2⟩ := callB_own hc ho
      have sk := own_sk ho
      have e2 : Fc ps (skL l) Fm j = Fm i := by unfold Fc; rw [ho]
      rw [e2, ← h1]
      rcases h with ⟨n, k1, k2, k3⟩ | ⟨k1, _⟩
      · rw [sk] at k1
        cases k1
        obtain ⟨v, q1, q2⟩ := f.rel i t k3
        rw [k2] at q1
        cases q1
        exact .inr ((q2.own (isO_ne (by rw [h1]; exact h2))).weak gw)
      · rw [sk] at k1; cases k1
    | none =>
      have e2 : Fc ps (skL l) Fm j = [] := by unfold Fc; rw [ho]
      rw [e2]
      rcases h with ⟨i, k1, k2, k3⟩ | ⟨k1, k2⟩
      · rcases callB_oth hc k1 ho with ⟨n, q1, q2, q3, q4⟩ | ⟨q1, _⟩
        · cases q1
          rw [q2]
          refine .inl (.inl ⟨rfl, rfl, ?_⟩)
          obtain ⟨v, p1, p2⟩ := f.rel i t k3
          rw [k2] at p1
          cases p1
          rcases p2 with (⟨_, _, p2⟩ | ⟨_, _, _, _, _, _, p2, _⟩) | p2
          · exact p2.weak gm
          · rw [p2] at q4; cases q4
          · refine p2.freeze fun a z => ⟨.inl (gm a z), fun w => ?_⟩
            rcases z with z | ⟨j', z⟩
            · exact absurd z List.not_mem_nil
            · obtain ⟨i', o1, o2⟩ := Fc_mem z
              refine f.dj i i' a (fun y => q3 ?_) w o2
              rw [y]
              exact own_mem o1
        · cases q1
      · rcases callB_oth hc k1 ho with ⟨n, q1, _⟩ | ⟨_, q2 | q2⟩
        · cases q1
        · rw [q2]; exact .inr (.fz (k2.weak gw))
        · rw [q2]; exact .inl (.inl ⟨rfl, rfl, k2.weak fun a z => .inl (gm a z)⟩)
  · unfold Fc
    cases ho : ownAt ps (skL l) j with
    | none => rfl
    | some i =>
      have sk := own_sk ho
      have lt : j < ts.length := by
        rw [res_len rs, ← skL_len]
        exact (List.getElem?_eq_some_iff.mp sk).1
      rw [dAt_map, List.getElem?_eq_getElem lt] at e
      cases e
  · unfold Fc
    split
    · exact f.nd _
    · exact List.nodup_nil
  · obtain ⟨i, o1, o2⟩ := Fc_mem q
    obtain ⟨i', o3, o4⟩ := Fc_mem q2
    by_cases z : i = i'
    · subst z
      exact n (own_inj nd o1 o3)
    · exact f.dj i i' a z o2 o4
  · obtain ⟨i, o1, o2⟩ := Fc_mem q
    rcases z with z | z | ⟨i', z1, z2⟩
    · exact f.xd i a z o2
    · exact f.dw i a o2 z
    · exact f.dj i i' a (fun y => z1 (by rw [← y]; exact own_mem o1)) o2 z2
  · rcases z with z | z | ⟨i, _, z⟩
    · exact f.xl a z
    · exact f.wl a z
    · exact f.alo a ⟨i, z⟩
/-- behind the call -/
theorem call_out (f : Fr K sh W Y Fm H σ δ) (ar : ArgR K (Gw Y Fm W) H σ l xs) (rs : res l δ = some ts) (hc : callB sh ps (skL l) (owns ps (skL l)) = true) (nd : (owns ps (skL l)).Nodup)
    (f' : Fr K (pl ps) (Wc ps (skL l) W Y Fm) F Fm' H' (xs.map some) (ts'.map some)) (xt : Xt (Om (Fc ps (skL l) Fm)) (fun a => a ∈ F ∨ Om Fm' a) H H') (hl : ts'.length = ps.length) :
    Fr K sh W (F ++ Y) (Fb ps (skL l) Fm Fm') H' σ (wb ps (skL l) ts' δ) ∧ Xt (Om Fm) (fun a => a ∈ F ∨ Om (Fb ps (skL l) Fm Fm') a) H H' ∧ ∀ a, Gw (F ++ Y) (Fb ps (skL l) Fm Fm') W a → Gw F Fm' (Wc ps (skL l) W Y Fm) a := by
  have oc : ∀ a, Om (Fc ps (skL l) Fm) a → Om Fm a := fun a ⟨j, z⟩ => by obtain ⟨i, _, h⟩ := Fc_mem z; exact ⟨i, h⟩
  have ob : ∀ a, Om (Fb ps (skL l) Fm Fm') a → Om Fm a ∨ H a = none := fun a ⟨i, z⟩ => by
    rcases Fb_mem z with ⟨_, z⟩ | ⟨_, z⟩
    · exact (xt.2 a (.inr ⟨_, z⟩)).imp (oc a) id
    · exact .inl ⟨i, z⟩
  have ag : ∀ a, Gm (F ++ Y) (Fb ps (skL l) Fm Fm') a → Gm Y Fm a ∨ H a = none := fun a z => by
    rcases z with z | z
    · rcases List.mem_append.mp z with z | z
      · exact (xt.2 a (.inl z)).imp (fun q => .inr (oc a q)) id
      · exact .inl (.inl z)
    · exact (ob a z).imp .inr id
  have gg : ∀ a, Gw (F ++ Y) (Fb ps (skL l) Fm Fm') W a → Gw F Fm' (Wc ps (skL l) W Y Fm) a := fun a z => by
    rcases z with (z | ⟨i, z⟩) | z
    · rcases List.mem_append.mp z with z | z
      · exact .inl (.inl z)
      · exact .inr (.inl z)
    · rcases Fb_mem z with ⟨_, z⟩ | ⟨z1, z2⟩
      · exact .inl (.inr ⟨_, z⟩)
      · exact .inr (.inr (.inr ⟨i, z1, z2⟩))
    · exact .inr (.inr (.inl z))
  have key : ∀ i, i ∈ owns ps (skL l) → ∃ t x, ts'[posOf ps (skL l) i]? = some t ∧ dAt (wb ps (skL l) ts' δ) i = some t ∧ xs[posOf ps (skL l) i]? = some x ∧ σ[i]? = some (some x) ∧ sh i = pl ps (posOf ps (skL l) i) ∧ (sh i).isO = true := fun i hi => by
    have ho := own_pos hi
    have sk := own_sk ho
    have lt : posOf ps (skL l) i < (skL l).length := (List.getElem?_eq_some_iff.mp sk).1
    have lt' : posOf ps (skL l) i < ts'.length := by rw [hl, callB_len hc]; exact lt
    have lts : posOf ps (skL l) i < ts.length := by rw [res_len rs, ← skL_len]; exact lt
    obtain ⟨x, hx, h⟩ := arg_at ar rs (List.getElem?_eq_getElem lts)
    obtain ⟨h1, h2⟩ := callB_own hc ho
    rcases h with ⟨n, k1, k2, k3⟩ | ⟨k1, _⟩
    · rw [sk] at k1
      cases k1
      exact ⟨_, x, List.getElem?_eq_getElem lt', wb_in nd ho (List.getElem?_eq_getElem lt') (dAt_lt k3), hx, k2, h1, by rw [h1]; exact h2⟩
    · rw [sk] at k1; cases k1
  refine ⟨⟨fun i t e => ?_, fun i e => ?_, fun i => ?_, fun i j a n q q2 => ?_, fun i a q => ?_, fun a z => ?_, by rw [wb_len]; exact f.len, ?_, fun i a q q2 => ?_, fun a q => ?_, fun a q => ?_⟩, ⟨xt.1.weak oc, fun a z => ?_⟩, gg⟩
  · by_cases hi : i ∈ owns ps (skL l)
    · obtain ⟨u, x, k1, k2, k3, k4, k5, k6⟩ := key i hi
      rw [e] at k2
      cases k2
      obtain ⟨v, q1, q2⟩ := f'.rel (posOf ps (skL l) i) t (by rw [dAt_map]; exact k1)
      have q1' : xs[posOf ps (skL l) i]? = some v := by simpa using q1
      rw [k3] at q1'
      cases q1'
      refine ⟨x, k4, .inr ?_⟩
      have e2 : Fb ps (skL l) Fm Fm' i = Fm' (posOf ps (skL l) i) := by unfold Fb; rw [if_pos hi]
      rw [e2, k5]
      exact (q2.own (isO_ne (by rw [← k5]; exact k6))).weak gg
    · rw [wb_out hi] at e
      obtain ⟨v, q1, q2⟩ := f.rel i t e
      refine ⟨v, q1, ?_⟩
      have e2 : Fb ps (skL l) Fm Fm' i = Fm i := by unfold Fb; rw [if_neg hi]
      rw [e2]
      refine q2.step xt.1 (fun a z => .inl (.inr (oc a z))) (fun a z => z.elim (fun z => (ag a z).imp .inl id) fun z => .inl (.inr z)) ag fun a z w => ?_
      obtain ⟨j, w⟩ := w
      obtain ⟨i', o1, o2⟩ := Fc_mem w
      exact f.dj i i' a (fun y => hi (by rw [y]; exact own_mem o1)) z o2
  · by_cases hi : i ∈ owns ps (skL l)
    · obtain ⟨u, x, _, k2, _⟩ := key i hi
      rw [e] at k2
      cases k2
    · rw [wb_out hi] at e
      unfold Fb
      rw [if_neg hi]
      exact f.un i e
  · unfold Fb
    split
    · exact f'.nd _
    · exact f.nd i
  · rcases Fb_mem q with ⟨z1, z2⟩ | ⟨z1, z2⟩ <;> rcases Fb_mem q2 with ⟨y1, y2⟩ | ⟨y1, y2⟩
    · refine f'.dj _ _ a (fun w => n ?_) z2 y2
      have h1 := own_pos z1
      have h2 := own_pos y1
      rw [w, h2] at h1
      exact (Option.some.inj h1).symm
    · exact f'.dw _ a z2 (.inr (.inr ⟨j, y1, y2⟩))
    · exact f'.dw _ a y2 (.inr (.inr ⟨i, z1, z2⟩))
    · exact f.dj i j a n z2 y2
  · rcases Fb_mem q with ⟨z1, z2⟩ | ⟨z1, z2⟩
    · exact fun w => f'.dw _ a z2 (.inr (.inl w))
    · exact f.dw i a z2
  · exact f'.wl a (.inr (.inl z))
  · exact List.nodup_append.mpr ⟨f'.xn, f.xn, fun a h1 b h2 e => f'.xw a h1 (.inl (by rw [e]; exact h2))⟩
  · rcases List.mem_append.mp q with q | q <;> rcases Fb_mem q2 with ⟨z1, z2⟩ | ⟨z1, z2⟩
    · exact f'.xd _ a q z2
    · exact f'.xw a q (.inr (.inr ⟨i, z1, z2⟩))
    · exact f'.dw _ a z2 (.inl q)
    · exact f.xd i a q z2
  · rcases List.mem_append.mp q with q | q
    · exact fun w => f'.xw a q (.inr (.inl w))
    · exact f.xw a q
  · rcases List.mem_append.mp q with q | q
    · exact f'.xl a q
    · exact xt.1.2 a (f.xl a q)
  · rcases z with z | z
    · exact (xt.2 a (.inl z)).imp (oc a) id
    · exact ob a z
end
/-! ### a call of a def -/
def fCall (ps : List Sh) (F : List T → Fo) (os : List Opd) : Dl → Rs := fun δ => match runs os δ with
  | none => none
  | some (.error e, δ') => some (.error e, δ')
  | some (.ok l, δ') => match res l δ' with
    | none => none
    | some ts => match F ts with
      | none => none
      | some (.ret t, ts') => if ts'.length = ps.length then some (.ok t, wb ps (skO os) ts' δ') else none
      | some (.exc e, ts') => if ts'.length = ps.length then some (.error e, wb ps (skO os) ts' δ') else none
section
variable {X : Cx} {K : PySem.W.Frag} {sh : Nat → Sh} {Wx : WX} {ps : List Sh} {rs : Sh} {F : List T → Fo} {os : List Opd} {σ : L2.St} {H : Hp} {Q : VK}
theorem call_sem {δ : Dl} {C : Rs → Prop} (hn : ¬ C none) (h : C (fCall ps F os δ)) : (∃ er δ', runs os δ = some (.error er, δ') ∧ C (some (.error er, δ'))) ∨ ∃ l δ' ts, runs os δ = some (.ok l, δ') ∧ res l δ' = some ts ∧
    ((∃ t ts', F ts = some (.ret t, ts') ∧ ts'.length = ps.length ∧ C (some (.ok t, wb ps (skO os) ts' δ'))) ∨ ∃ e ts', F ts = some (.exc e, ts') ∧ ts'.length = ps.length ∧ C (some (.error e, wb ps (skO os) ts' δ'))) := by
  unfold fCall at h
  cases e : runs os δ with
  | none => simp only [e] at h; exact absurd h hn
  | some p =>
    obtain ⟨p, δ'⟩ := p
    cases p with
    | error er => simp only [e] at h; exact .inl ⟨er, δ', rfl, h⟩
    | ok l =>
      simp only [e] at h
      cases q : res l δ' with
      | none => simp only [q] at h; exact absurd h hn
      | some ts =>
        simp only [q] at h
        cases o : F ts with
        | none => simp only [o] at h; exact absurd h hn
        | some p =>
          obtain ⟨p, ts'⟩ := p
          cases p with
          | ret t =>
            simp only [o] at h
            split at h
            · rename_i hl; exact .inr ⟨l, δ', ts, rfl, q, .inl ⟨t, ts', o, hl, h⟩⟩
            · exact absurd h hn
          | exc er =>
            simp only [o] at h
            split at h
            · rename_i hl; exact .inr ⟨l, δ', ts, rfl, q, .inr ⟨er, ts', o, hl, h⟩⟩
            · exact absurd h hn
theorem call_ok (hc : callB sh ps (skO os) (owns ps (skO os)) = true) (nd : (owns ps (skO os)).Nodup) (hr : rs = .fz) (h : TF K sh Wx (fCall ps F os) σ H Q) : TOs K sh Wx os σ H fun vs H1 => FS K ps rs F vs H1 Q (WE Wx σ) := by
  obtain ⟨W, Y, Fm, δ, fr, h⟩ := h
  refine args_ok (W := W) (X := Y) (Fm := Fm) fr ?_
  rcases call_sem (C := fun r => Kf K sh Wx W Y Fm σ H r Q) (fun z => z) h with ⟨er, δ', e1, h⟩ | ⟨l, δ', ts, e1, e2, h⟩
  · rw [e1]; exact h
  · rw [e1]
    have es := runs_sk e1
    rw [← es] at hc nd h
    refine ⟨⟨ts, e2⟩, fun xs H1 Fm1 f1 x1 ar => ?_⟩
    refine ⟨by rw [ar.len, ← skL_len, callB_len hc], Wc ps (skL l) W Y Fm1, Fc ps (skL l) Fm1, ts, by rw [res_len e2, ← skL_len, callB_len hc], call_in f1 ar e2 hc nd, ?_⟩
    rcases h with ⟨t, ts', e3, hl, h⟩ | ⟨e, ts', e3, hl, h⟩
    · rw [e3]
      intro x H' Fm' F' f' o x'
      obtain ⟨k1, k2, k3⟩ := call_out f1 ar e2 hc nd f' x' hl
      subst hr
      obtain ⟨d, rfl⟩ := o.df
      refine h x H' _ k1 (x1.tr ⟨k2.1, fun a z => k2.2 a (.inr z)⟩) (d.weak k3)
    · rw [e3]
      intro d v H' Fm' f' x' hd dv
      obtain ⟨k1, k2, k3⟩ := call_out (F := []) f1 ar e2 hc nd f' ⟨x'.1, fun a z => z.elim (fun w => absurd w List.not_mem_nil) fun w => x'.2 a w⟩ hl
      exact h d v H' _ k1 (x1.tr ⟨k2.1, fun a z => k2.2 a (.inr z)⟩) ⟨fun z => hd.1 (k3 d z), hd.2⟩ (dv.weak k3)
theorem call_okN (hc : callB sh ps (skO os) (owns ps (skO os)) = true) (nd : (owns ps (skO os)).Nodup) (h : TN K sh rs Wx (fCall ps F os) σ H Q) : TOs K sh Wx os σ H fun vs H1 => FS K ps rs F vs H1 Q (WE Wx σ) := by
  obtain ⟨W, Y, Fm, δ, fr, h⟩ := h
  refine args_ok (W := W) (X := Y) (Fm := Fm) fr ?_
  rcases call_sem (C := fun r => Kn K sh rs Wx W Y Fm σ H r Q) (fun z => z) h with ⟨er, δ', e1, h⟩ | ⟨l, δ', ts, e1, e2, h⟩
  · rw [e1]; exact h
  · rw [e1]
    have es := runs_sk e1
    rw [← es] at hc nd h
    refine ⟨⟨ts, e2⟩, fun xs H1 Fm1 f1 x1 ar => ?_⟩
    refine ⟨by rw [ar.len, ← skL_len, callB_len hc], Wc ps (skL l) W Y Fm1, Fc ps (skL l) Fm1, ts, by rw [res_len e2, ← skL_len, callB_len hc], call_in f1 ar e2 hc nd, ?_⟩
    rcases h with ⟨t, ts', e3, hl, h⟩ | ⟨e, ts', e3, hl, h⟩
    · rw [e3]
      intro x H' Fm' F' f' o x'
      obtain ⟨k1, k2, k3⟩ := call_out f1 ar e2 hc nd f' x' hl
      exact h x H' _ F' k1 (o.weak k3) (x1.tr k2)
    · rw [e3]
      intro d v H' Fm' f' x' hd dv
      obtain ⟨k1, k2, k3⟩ := call_out (F := []) f1 ar e2 hc nd f' ⟨x'.1, fun a z => z.elim (fun w => absurd w List.not_mem_nil) fun w => x'.2 a w⟩ hl
      exact h d v H' _ k1 (x1.tr ⟨k2.1, fun a z => k2.2 a (.inr z)⟩) ⟨fun z => hd.1 (k3 d z), hd.2⟩ (dv.weak k3)
variable {k : Nat} {x : Str} {e : Expr} {es : List Expr} {params : List Str} {p pos : Pos}
theorem m_call (C : NL.Cal X.prog X.w X.K X.mg X.base k x params (FS K ps .fz F)) (tk : Takes X Wx) (hr : Room k X.A) (hs : PEs X (e :: es) (os.map (TO K sh Wx))) (hc : callB sh ps (skO os) (owns ps (skO os)) = true := by rfl) (nd : (owns ps (skO os)).Nodup := by decide)
    (hg : Gl X x := by rfl) (hdb : (x == ("__debug__" : Str)) = false := by decide) (hpl : (backTo pos (starEach es X.env)).any (·.1) = false := by rfl) :
    PE X (.Call (.Name x p) (e :: es) [] pos) (TF K sh Wx (fCall ps F os)) := by
  have pa := hs.pa
  rw [TOs_all] at pa
  generalize hts : os.map (TO K sh Wx) = l at hs
  cases hs with
  | cons h1 h2 s1 =>
    refine pe_imp (NL.q_call C tk hr pa hg hdb s1 hpl) fun σ H Q h => call_ok hc nd rfl h
theorem m_callN (C : NL.Cal X.prog X.w X.K X.mg X.base k x params (FS K ps rs F)) (tk : Takes X Wx) (hr : Room k X.A) (hs : PEs X (e :: es) (os.map (TO K sh Wx))) (hc : callB sh ps (skO os) (owns ps (skO os)) = true := by rfl) (nd : (owns ps (skO os)).Nodup := by decide)
    (hg : Gl X x := by rfl) (hdb : (x == ("__debug__" : Str)) = false := by decide) (hpl : (backTo pos (starEach es X.env)).any (·.1) = false := by rfl) :
    PE X (.Call (.Name x p) (e :: es) [] pos) (TN K sh rs Wx (fCall ps F os)) := by
  have pa := hs.pa
  rw [TOs_all] at pa
  generalize hts : os.map (TO K sh Wx) = l at hs
  cases hs with
  | cons h1 h2 s1 =>
    refine pe_imp (NL.q_call C tk hr pa hg hdb s1 hpl) fun σ H Q h => call_okN hc nd h
/-- what is made is let go: it is frozen -/
theorem m_fz {s : Sh} {e : Expr} {f : Dl → Rs} (h : PE X e (TN K sh s Wx f)) : PE X e (TF K sh Wx f) := pe_imp h fun σ H Q ⟨W, Y, Fm, δ, fr, k⟩ => by
  refine ⟨W, Y, Fm, δ, fr, ?_⟩
  cases q : f δ with
  | none => rw [q] at k; exact k
  | some p =>
    obtain ⟨p, δ'⟩ := p
    cases p with
    | error er => rw [q] at k; exact k
    | ok t =>
      rw [q] at k
      intro x H' Fm' F' f' o x'
      have nx := List.nodup_append.mp f'.xn
      refine k x H' Fm' f'.let ⟨x'.1, fun a z => x'.2 a (.inr z)⟩ (o.freeze fun a z => ⟨z.imp (fun z => z.imp (fun w => List.mem_append_right _ w) id) id, fun w => ?_⟩)
      rcases z with (z | ⟨i, z⟩) | z
      · exact nx.2.2 a w a z rfl
      · exact f'.xd i a (List.mem_append_left _ w) z
      · exact f'.xw a (List.mem_append_left _ w) z
end
end NQ
namespace NQ
open PySem L2
/-! ### targets -/
abbrev Gf := T → Dl → Option Dl
abbrev Gfs := List T → Dl → Option Dl
/-- only the slots ns may have changed -/
def On (ns : List Nat) (σ σ' : L2.St) : Prop := σ'.length = σ.length ∧ ∀ i, i ∉ ns → σ'[i]? = σ[i]?
theorem On.refl {ns : List Nat} {σ : L2.St} : On ns σ σ := ⟨rfl, fun _ _ => rfl⟩
theorem On.set {σ : L2.St} {i : Nat} {v : Option V} : On [i] σ (σ.set i v) := ⟨by simp, fun j h => by rw [List.getElem?_set_ne (fun z => h (by rw [z]; exact List.mem_singleton.mpr rfl))]⟩
theorem On.tr {ns ms : List Nat} {σ σ1 σ2 : L2.St} (h : On ns σ σ1) (h2 : On ms σ1 σ2) : On (ns ++ ms) σ σ2 := ⟨h2.1.trans h.1, fun i n => (h2.2 i fun z => n (List.mem_append_right _ z)).trans (h.2 i fun z => n (List.mem_append_left _ z))⟩
def TGF (K : PySem.W.Frag) (c : Cf) (ns : List Nat) (gp : Gf) : TG := fun v σ H QS => ∃ W Y Fm δ t, Fr K c.sh W Y Fm H σ δ ∧ Df K (Gw Y Fm W) H v t ∧ ∃ δ', gp t δ = some δ' ∧ ∀ σ', Kp c σ σ' → On ns σ σ' → Fr K c.sh W Y Fm H σ' δ' → QS σ' H
def TGsF (K : PySem.W.Frag) (c : Cf) (ns : List Nat) (gp : Gfs) : TGs := fun vs σ H QS => ∃ W Y Fm δ ts, Fr K c.sh W Y Fm H σ δ ∧ DfL K (Gw Y Fm W) H vs ts ∧ ∃ δ', gp ts δ = some δ' ∧ ∀ σ', Kp c σ σ' → On ns σ σ' → Fr K c.sh W Y Fm H σ' δ' → QS σ' H
def gN (i : Nat) : Gf := fun t δ => some (δ.set i (some t))
def gT (gs : Gfs) : Gf := fun t δ => match seqT t with
  | some ts => gs ts δ
  | none => none
def gNl : Gfs
  | [], δ => some δ
  | _ :: _, _ => none
def gCs (g : Gf) (gs : Gfs) : Gfs
  | t :: ts, δ => match g t δ with
    | some δ' => gs ts δ'
    | none => none
  | [], _ => none
section
variable {X : Cx} {K : PySem.W.Frag} {c : Cf} {x : Str} {pos : Pos} {e : Expr} {es : List Expr}
theorem pg_imp {t t' : TG} (h : PG X e t) (i : ∀ v σ H Q, t' v σ H Q → t v σ H Q) : PG X e t' := ⟨fun pins s σ H v u Q I r q => h.run pins s σ H v u Q I r (i v σ H Q q)⟩
theorem pgs_imp {t t' : TGs} (h : PGs X es t) (i : ∀ v σ H Q, t' v σ H Q → t v σ H Q) : PGs X es t' := ⟨fun pins s σ H v u Q I r q => h.run pins s σ H v u Q I r (i v σ H Q q)⟩
theorem mg_name (i : Nat) (hN : X.N.Nodup) (hs : c.sh i = .fz := by rfl) (hp : c.pr i = false := by rfl) (hi : X.N[i]? = some x := by rfl) (hx : Loc X.env.scope x := by first | exact Or.inl rfl | exact Or.inr rfl)
    (hf : X.fn x = true ∨ X.env.scope.names.lookup x = some .local := by first | exact .inl rfl | exact .inr rfl) : PG X (.Name x pos) (TGF K c [i] (gN i)) :=
  pg_imp (pg_name hN hi hx hf) fun v σ H Q ⟨W, Y, Fm, δ, t, fr, d, δ', e1, k⟩ => by
    cases e1
    exact k _ (Kp.set hp) On.set (fr.set (fr.fz0 hs) (by rw [hs]; exact .inr (.fz d)))
theorem mgs_nil : PGs X [] (TGsF K c [] gNl) := pgs_imp pgs_nil fun vs σ H Q ⟨W, Y, Fm, δ, ts, fr, d, δ', e1, k⟩ => by
  cases d with
  | nil => cases e1; exact ⟨rfl, k σ .refl .refl fr⟩
  | cons _ _ => cases e1
theorem mgs_cons {g : Gf} {gs : Gfs} {ns ms : List Nat} (h1 : PG X e (TGF K c ns g)) (h2 : PGs X es (TGsF K c ms gs)) (hs : (assignEach (e :: es) X.env).map (·.2) = assign e X.env :: (assignEach es X.env).map (·.2) := by rfl) : PGs X (e :: es) (TGsF K c (ns ++ ms) (gCs g gs)) :=
  pgs_imp (pgs_cons h1 h2 hs) fun vs σ H Q ⟨W, Y, Fm, δ, ts, fr, d, δ', e1, k⟩ => by
    cases d with
    | nil => cases e1
    | @cons v t vs ts d1 d2 =>
      unfold gCs at e1
      cases q : g t δ with
      | none => simp only [q] at e1; cases e1
      | some δ1 =>
        simp only [q] at e1
        exact ⟨_, _, rfl, W, Y, Fm, δ, t, fr, d1, δ1, q, fun σ1 kp o1 f1 => ⟨W, Y, Fm, δ1, ts, f1, d2, δ', e1, fun σ2 kp2 o2 f2 => k σ2 (kp.tr kp2) (o1.tr o2) f2⟩⟩
theorem gs_len {gs : Gfs} : True := trivial
theorem mg_tup {gs : Gfs} {ns : List Nat} (n : Nat) {k : Nat} (h : PGs X es (TGsF K c ns gs)) (hl : ∀ ts δ δ', gs ts δ = some δ' → ts.length = n) (hc : X.calm = true := by rfl) (hn : (assignEach es X.env).length = n := by rfl) (hst : (assignEach es X.env).findIdx? (·.1) = none := by rfl) (hK : X.K = K := by rfl) :
    PG X (.Tuple es k pos) (TGF K c ns (gT gs)) := pg_imp (NL.q_gtup K n h hc hn hst hK) fun v σ H Q ⟨W, Y, Fm, δ, t, fr, d, δ', e1, k⟩ => by
  unfold gT at e1
  cases q : seqT t with
  | none => simp only [q] at e1; cases e1
  | some ts =>
    simp only [q] at e1
    obtain ⟨p, vs, rfl, h1, h2⟩ := d.vw.seq q
    exact ⟨p, vs, rfl, h1.symm, by rw [h2.length, hl _ _ _ e1], W, Y, Fm, δ, ts, fr, h2, δ', e1, k⟩
theorem gl_nil : ∀ ts δ δ', gNl ts δ = some δ' → ts.length = 0 := fun ts δ δ' e => by
  cases ts with
  | nil => rfl
  | cons _ _ => cases e
theorem gl_cons {g : Gf} {gs : Gfs} {n : Nat} (h : ∀ ts δ δ', gs ts δ = some δ' → ts.length = n) : ∀ ts δ δ', gCs g gs ts δ = some δ' → ts.length = n + 1 := fun ts δ δ' e => by
  cases ts with
  | nil => cases e
  | cons t r =>
    unfold gCs at e
    cases q : g t δ with
    | none => simp only [q] at e; cases e
    | some δ1 => simp only [q] at e; rw [List.length_cons, h _ _ _ e]
end
/-! ### what is walked over -/
abbrev Il := Dl → Option (Except Xn (List T) × Dl)
/-- the iterator gives the items ts, as long as G is all that changes -/
def Wk (K : PySem.W.Frag) (G : Addr → Prop) (H : Hp) (J : It) (ts : List T) : Prop := ∃ Gd Yl, Walk J ts.length Gd Yl ∧ ∀ (G2 U : Addr → Prop) (H2 : Hp), EdP U H H2 → (∀ a, U a → G a ∨ H a = none) → (∀ a, G2 a → G a ∨ H a = none) → (∀ a, G2 a → H2 a ≠ none) →
  Gd H2 ∧ ∀ i x H3, i < ts.length → Yl i H2 x H3 → EdP noA H2 H3 ∧ ∃ t, ts[i]? = some t ∧ Df K G2 H3 x t
def Ki (K : PySem.W.Frag) (sh : Nat → Sh) (Wx : WX) (W : Addr → Prop) (Y : List Addr) (Fm : Nat → List Addr) (σ : L2.St) (H : Hp) (r : Option (Except Xn (List T) × Dl)) (R : It → Hp → Prop) : Prop := match r with
  | none => False
  | some (.ok ts, δ') => ∀ J H' Fm', Fr K sh W Y Fm' H' σ δ' → Xt (Om Fm) (Om Fm') H H' → Wk K (Gw Y Fm' W) H' J ts → R J H'
  | some (.error e, δ') => Ke K sh Wx W Y Fm σ H e δ'
def TIF (K : PySem.W.Frag) (sh : Nat → Sh) (Wx : WX) (its : Il) : TI := fun σ H R => ∃ W Y Fm δ, Fr K sh W Y Fm H σ δ ∧ Ki K sh Wx W Y Fm σ H (its δ) R
section
variable {K : PySem.W.Frag} {G : Addr → Prop} {H : Hp} {a : Addr} {vs : List V} {ts : List T}
theorem wk_list (h : ¬ G a) (c : Rd H a (.lst vs)) (d : DfL K G H vs ts) : Wk K G H (Itl K a) ts := by
  refine ⟨_, _, by rw [← d.length]; exact walk_list (xs := vs), fun G2 U H2 ed hu hg al => ⟨Or.inl ?_, fun i x H3 hi hy => ?_⟩⟩
  · have alive : H a ≠ none := CellR.alive (K := K) (t := .lst ts) c
    have k : ∀ o, H a = some o → H2 a = some o := fun o q => ed.1 _ _ (fun z => (hu a z).elim h alive) q
    rcases c with c | ⟨o, c⟩
    · exact .inl (k _ c)
    · exact .inr ⟨o, k _ c⟩
  · obtain ⟨rfl, e⟩ := hy
    exact ⟨.refl, (d.step ed hu hg).at' e⟩
theorem wk_tup (h : ¬ G a) (c : H a = some (.tup vs)) (d : DfL K G H vs ts) : Wk K G H (Itt K a) ts := by
  refine ⟨_, _, by rw [← d.length]; exact walk_tup (xs := vs), fun G2 U H2 ed hu hg al => ⟨?_, fun i x H3 hi hy => ?_⟩⟩
  · have alive : H a ≠ none := by rw [c]; exact fun z => nomatch z
    exact SqT.of (ed.1 _ _ (fun z => (hu a z).elim h alive) c)
  · obtain ⟨rfl, e⟩ := hy
    exact ⟨.refl, (d.step ed hu hg).at' e⟩
theorem wk_ctup (c : ∀ H : Hp, SqT K H a (ts.map T.sv)) (d : ts.all T.isS = true) : Wk K G H (Itt K a) ts := by
  refine ⟨_, _, by rw [← List.length_map (f := T.sv)]; exact walk_tup (xs := ts.map T.sv), fun G2 U H2 ed hu hg al => ⟨c H2, fun i x H3 hi hy => ?_⟩⟩
  obtain ⟨rfl, e⟩ := hy
  exact ⟨.refl, (DfL.sv d).at' e⟩
theorem wk_clst (c : ∀ H : Hp, SqL K H a (ts.map T.sv)) (d : ts.all T.isS = true) : Wk K G H (Itl K a) ts := by
  refine ⟨_, _, by rw [← List.length_map (f := T.sv)]; exact walk_list (xs := ts.map T.sv), fun G2 U H2 ed hu hg al => ⟨c H2, fun i x H3 hi hy => ?_⟩⟩
  obtain ⟨rfl, e⟩ := hy
  exact ⟨.refl, (DfL.sv d).at' e⟩
theorem wk_str {z : Str} (s : PyData.strOk z = true) : Wk K G H (Its z) ((NL.sgn z).map T.str) := by
  have hl : ((NL.sgn z).map T.str).length = z.cps.size := by unfold NL.sgn; simp
  refine ⟨_, _, by rw [hl]; exact walk_str, fun G2 U H2 ed hu hg al => ⟨trivial, fun i x H3 hi hy => ?_⟩⟩
  obtain ⟨rfl, c, e, rfl⟩ := hy
  refine ⟨.refl, .str ⟨#[c]⟩, ?_, .sc ⟨rfl, ?_⟩⟩
  · unfold NL.sgn
    rw [List.map_map, List.getElem?_map, show z.cps.toList[i]? = some c by simpa using e]
    rfl
  · exact sok_one (List.mem_of_getElem? (show z.cps.toList[i]? = some c by simpa using e)) s
theorem wk_range {lo : Int} {n : Nat} : Wk K G H (Itr lo n) ((List.range n).map fun i => T.int (lo + (i : Nat))) := by
  refine ⟨_, _, by rw [List.length_map, List.length_range]; exact walk_range, fun G2 U H2 ed hu hg al => ⟨trivial, fun i x H3 hi hy => ?_⟩⟩
  obtain ⟨rfl, rfl⟩ := hy
  rw [List.length_map, List.length_range] at hi
  exact ⟨.refl, .int (lo + (i : Nat)), by rw [List.getElem?_map, List.getElem?_range hi]; rfl, .sc rfl⟩
def enT (ts : List T) : List T := ts.zipIdx.map fun p => T.tup [.int (p.2 : Nat), p.1]
theorem enT_at {i : Nat} {t : T} (h : ts[i]? = some t) : (enT ts)[i]? = some (.tup [.int (i : Nat), t]) := by
  unfold enT
  rw [List.getElem?_map, List.getElem?_zipIdx, h]
  simp
theorem enT_len : (enT ts).length = ts.length := by unfold enT; simp
theorem pair_df {H2 : Hp} {G2 : Addr → Prop} {p : Addr} {x y : V} {t u : T} (al : ∀ a, G2 a → H2 a ≠ none) (hp : H2 p = none) (h1 : Df K G2 H2 x t) (h2 : Df K G2 H2 y u) : EdP noA H2 (upd H2 p (.tup [x, y])) ∧ Df K G2 (upd H2 p (.tup [x, y])) (.ref p) (.tup [t, u]) :=
  ⟨EdP.new hp, .nd (fun z => al p z hp) upd_same (.cons (h1.ed0 (EdP.new hp)) (.cons (h2.ed0 (EdP.new hp)) .nil))⟩
theorem wk_enum (h : ¬ G a) (c : Rd H a (.lst vs)) (d : DfL K G H vs ts) : Wk K G H (Ite K a) (enT ts) := by
  refine ⟨_, _, by rw [enT_len, ← d.length]; exact walk_enum (xs := vs), fun G2 U H2 ed hu hg al => ⟨Or.inl ?_, fun i x H3 hi hy => ?_⟩⟩
  · have alive : H a ≠ none := CellR.alive (K := K) (t := .lst ts) c
    have k : ∀ o, H a = some o → H2 a = some o := fun o q => ed.1 _ _ (fun z => (hu a z).elim h alive) q
    rcases c with c | ⟨o, c⟩
    · exact .inl (k _ c)
    · exact .inr ⟨o, k _ c⟩
  · obtain ⟨p, x1, y1, rfl, hp, rfl, e1, e2⟩ := hy
    cases e1
    obtain ⟨t, e3, e4⟩ := (d.step ed hu hg).at' e2
    obtain ⟨k1, k2⟩ := pair_df al hp (.sc (show Sc K (.int (i : Nat)) (.int (i : Nat)) from rfl)) e4
    exact ⟨k1, _, enT_at e3, k2⟩
end
section
variable {X : Cx} {K : PySem.W.Frag} {sh : Nat → Sh} {Wx : WX} {tg e : Expr} {es : List Expr} {pos p : Pos}
theorem pi_imp {wi wi' : TI} (h : PI X tg e wi) (i : ∀ σ H R, wi' σ H R → wi σ H R) : PI X tg e wi' := ⟨fun pins s σ H R I q => h.run pins s σ H R I (i σ H R q)⟩
theorem pi_or {wi wi' : TI} (h : PI X tg e wi) (h' : PI X tg e wi') : PI X tg e fun σ H R => wi σ H R ∨ wi' σ H R := ⟨fun pins s σ H R I q => q.elim (h.run pins s σ H R I) (h'.run pins s σ H R I)⟩
/-- the items of a thing -/
def itT : T → Option (List T)
  | .str z => some ((NL.sgn z).map T.str)
  | t => seqT t
def itE (f : Dl → Rs) : Il := fun δ => match f δ with
  | none => none
  | some (.error e, δ') => some (.error e, δ')
  | some (.ok t, δ') => match itT t with
    | some ts => some (.ok ts, δ')
    | none => none
theorem Df.lst {G : Addr → Prop} {H : Hp} {x : V} {ts : List T} (h : Df K G H x (.lst ts)) : ∃ a vs, x = .ref a ∧ ¬ G a ∧ Rd H a (.lst vs) ∧ DfL K G H vs ts := by
  cases h with
  | sc h => exact h.elim
  | nd n c r => exact ⟨_, _, rfl, n, c, r⟩
theorem Df.tup {G : Addr → Prop} {H : Hp} {x : V} {ts : List T} (h : Df K G H x (.tup ts)) : ∃ a vs, x = .ref a ∧ ¬ G a ∧ H a = some (.tup vs) ∧ DfL K G H vs ts := by
  cases h with
  | sc h => exact h.elim
  | nd n c r => exact ⟨_, _, rfl, n, c, r⟩
theorem it_sem {f : Dl → Rs} {W : Addr → Prop} {Y : List Addr} {Fm : Nat → List Addr} {σ : L2.St} {H : Hp} {δ : Dl} {R : It → Hp → Prop} {g : List T → List T} {gf : Il} (hg : gf δ = match itE f δ with | some (.ok ts, δ') => some (.ok (g ts), δ') | r => r) (k : Ki K sh Wx W Y Fm σ H (gf δ) R) :
    (∃ er δ', f δ = some (.error er, δ') ∧ Ke K sh Wx W Y Fm σ H er δ') ∨ ∃ t δ' ts, f δ = some (.ok t, δ') ∧ itT t = some ts ∧ ∀ J H' Fm', Fr K sh W Y Fm' H' σ δ' → Xt (Om Fm) (Om Fm') H H' → Wk K (Gw Y Fm' W) H' J (g ts) → R J H' := by
  rw [hg] at k
  unfold itE at k
  cases q : f δ with
  | none => simp only [q] at k; exact k.elim
  | some p =>
    obtain ⟨p, δ'⟩ := p
    cases p with
    | error er => simp only [q] at k; exact .inl ⟨er, δ', rfl, k⟩
    | ok t =>
      simp only [q] at k
      cases q2 : itT t with
      | none => simp only [q2] at k; exact k.elim
      | some ts => simp only [q2] at k; exact .inr ⟨t, δ', ts, rfl, q2, k⟩
theorem mi_it {f : Dl → Rs} (h : PE X e (TF K sh Wx f)) (hK : X.K = K := by rfl) : PI X tg e (TIF K sh Wx (itE f)) := by
  refine pi_imp (pi_or (NL.q_list K h hK) (pi_or (NL.q_tupI K h hK) (pi_str h))) fun σ H R ⟨W, Y, Fm, δ, fr, k⟩ => ?_
  rcases it_sem (g := id) (gf := itE f) (by cases itE f δ with | none => rfl | some p => obtain ⟨p, _⟩ := p; cases p <;> rfl) k with ⟨er, δ', q, k⟩ | ⟨t, δ', ts, q, q2, k⟩
  · exact .inl ⟨W, Y, Fm, δ, fr, by rw [q]; exact k⟩
  · cases t with
    | lst us =>
      cases q2
      refine .inl ⟨W, Y, Fm, δ, fr, ?_⟩
      rw [q]
      intro x H' Fm' f' x' d
      obtain ⟨a, vs, rfl, n, c, r⟩ := d.lst
      exact ⟨a, rfl, ⟨vs, .inl c⟩, k _ H' Fm' f' x' (wk_list n c r)⟩
    | tup us =>
      cases q2
      refine .inr (.inl ⟨W, Y, Fm, δ, fr, ?_⟩)
      rw [q]
      intro x H' Fm' f' x' d
      obtain ⟨a, vs, rfl, n, c, r⟩ := d.tup
      exact ⟨a, rfl, ⟨vs, SqT.of c⟩, k _ H' Fm' f' x' (wk_tup n c r)⟩
    | ctup us =>
      cases q2
      refine .inr (.inl ⟨W, Y, Fm, δ, fr, ?_⟩)
      rw [q]
      intro x H' Fm' f' x' d
      cases d with
      | sc h =>
        obtain ⟨a, rfl, c, z⟩ := h
        exact ⟨a, rfl, ⟨_, c H'⟩, k _ H' Fm' f' x' (wk_ctup c z)⟩
      | nd n c r => exact c.elim
    | clst us =>
      cases q2
      refine .inl ⟨W, Y, Fm, δ, fr, ?_⟩
      rw [q]
      intro x H' Fm' f' x' d
      cases d with
      | sc h =>
        obtain ⟨a, rfl, c, z⟩ := h
        exact ⟨a, rfl, ⟨_, c H'⟩, k _ H' Fm' f' x' (wk_clst c z)⟩
      | nd n c r => exact c.elim
    | str z =>
      cases q2
      refine .inr (.inr ⟨W, Y, Fm, δ, fr, ?_⟩)
      rw [q]
      intro x H' Fm' f' x' d
      obtain ⟨rfl, s1⟩ := d.rp.str
      exact ⟨z, rfl, k _ H' Fm' f' x' (wk_str s1)⟩
    | _ => cases q2
/-! ### range, enumerate -/
def itR1 (f : Dl → Rs) : Il := fun δ => match f δ with
  | some (.ok (.int j), δ') => if -(2 ^ 62) ≤ j ∧ j < 2 ^ 62 then some (.ok ((List.range j.toNat).map fun i => T.int (0 + (i : Nat))), δ') else none
  | some (.error e, δ') => some (.error e, δ')
  | _ => none
theorem mi_range1 {f : Dl → Rs} (h : PE X e (TF K sh Wx f)) (hm : X.mg "range" = none) (hg : Gl X "range" := by rfl) (hs : starEach [e] X.env = [(false, eval e X.env)] := by rfl) : PI X tg (.Call (.Name "range" p) [e] [] pos) (TIF K sh Wx (itR1 f)) :=
  pi_imp (pi_range1 hg hm (pa_cons h pa_nil hs) hs) fun σ H R ⟨W, Y, Fm, δ, fr, k⟩ => by
    refine ⟨W, Y, Fm, δ, fr, ?_⟩
    unfold itR1 at k
    split at k
    · rename_i j δ' q
      split at k
      · rename_i hz
        rw [q]
        intro x H' Fm' f' x' d
        cases d.rp.int
        exact ⟨j, rfl, hz.1, hz.2, k _ H' Fm' f' x' wk_range⟩
      · exact k.elim
    · rename_i er δ' q; rw [q]; exact k
    · exact k.elim
def itR2 (o1 o2 : Dl → Rs) : Il := fun δ => match o1 δ with
  | some (.ok (.int i), δ1) => match o2 δ1 with
    | some (.ok (.int j), δ') => if -(2 ^ 62) ≤ i ∧ i < 2 ^ 62 ∧ -(2 ^ 62) ≤ j ∧ j < 2 ^ 62 then some (.ok ((List.range (j - i).toNat).map fun n => T.int (i + (n : Nat))), δ') else none
    | some (.error e, δ') => some (.error e, δ')
    | _ => none
  | some (.error e, δ') => some (.error e, δ')
  | _ => none
theorem mi_range2 {e2 : Expr} {f g : Dl → Rs} (h : PE X e (TF K sh Wx f)) (h2 : PE X e2 (TF K sh Wx g)) (hm : X.mg "range" = none) (hg : Gl X "range" := by rfl) (hs : starEach [e, e2] X.env = [(false, eval e X.env), (false, eval e2 X.env)] := by rfl) (hs2 : starEach [e2] X.env = [(false, eval e2 X.env)] := by rfl)
    (hs3 : starEach [e, e2] X.env = (false, eval e X.env) :: starEach [e2] X.env := by rfl) : PI X tg (.Call (.Name "range" p) [e, e2] [] pos) (TIF K sh Wx (itR2 f g)) :=
  pi_imp (pi_range2 hg hm (pa_cons h (pa_cons h2 pa_nil hs2) hs3) hs hs2) fun σ H R ⟨W, Y, Fm, δ, fr, k⟩ => by
    refine ⟨W, Y, Fm, δ, fr, ?_⟩
    unfold itR2 at k
    split at k
    · rename_i i δ1 q
      rw [q]
      intro x H1 Fm1 f1 x1 d1
      cases d1.rp.int
      refine ⟨W, Y, Fm1, δ1, f1, ?_⟩
      split at k
      · rename_i j δ' q2
        split at k
        · rename_i hz
          rw [q2]
          intro y H' Fm' f' x' d
          cases d.rp.int
          exact ⟨i, j, rfl, hz, k _ H' Fm' f' (x1.tr x') wk_range⟩
        · exact k.elim
      · rename_i er δ' q2; rw [q2]; exact Ke.shift x1 k
      · exact k.elim
    · rename_i er δ' q; rw [q]; exact k
    · exact k.elim
def itEn (f : Dl → Rs) : Il := fun δ => match f δ with
  | some (.ok (.lst ts), δ') => some (.ok (enT ts), δ')
  | some (.error e, δ') => some (.error e, δ')
  | _ => none
theorem mi_enum {f : Dl → Rs} {elts : List Expr} {kk : Nat} {tpos : Pos} (h : PE X e (TF K sh Wx f)) (hm : X.mg "enumerate" = none) (hg : Gl X "enumerate" := by rfl) (hs : starEach [e] X.env = [(false, eval e X.env)] := by rfl) (hK : X.K = K := by rfl) :
    PI X (.Tuple elts kk tpos) (.Call (.Name "enumerate" p) [e] [] pos) (TIF K sh Wx (itEn f)) :=
  pi_imp (NL.q_enum K hm (pa_cons h pa_nil hs) hg hs hK) fun σ H R ⟨W, Y, Fm, δ, fr, k⟩ => by
    refine ⟨W, Y, Fm, δ, fr, ?_⟩
    unfold itEn at k
    split at k
    · rename_i ts δ' q
      rw [q]
      intro x H' Fm' f' x' d
      obtain ⟨a, vs, rfl, n, c, r⟩ := d.lst
      exact ⟨a, vs, rfl, .inl c, k _ H' Fm' f' x' (wk_enum n c r)⟩
    · rename_i er δ' q; rw [q]; exact k
    · exact k.elim
/-! ### for -/
def forM : List T → Gf → Sf → Sf
  | [], _, _, δ => some (.nx, δ)
  | t :: r, g, b, δ => match g t δ with
    | none => none
    | some δ1 => match b δ1 with
      | none => none
      | some (.nx, δ2) => forM r g b δ2
      | some (.cont, δ2) => forM r g b δ2
      | some (.brk, δ2) => some (.nx, δ2)
      | some (.ret t, δ2) => some (.ret t, δ2)
      | some (.exc e, δ2) => some (.exc e, δ2)
def sFor (its : Il) (g : Gf) (b : Sf) : Sf := fun δ => match its δ with
  | none => none
  | some (.error e, δ') => some (.exc e, δ')
  | some (.ok ts, δ') => forM ts g b δ'
variable {c : Cf} {body : List Stmt}
theorem for_ok {its : Il} {g : Gf} {ns : List Nat} {b : Sf} {D : Ends} {σ : L2.St} {H : Hp} (h : SF K c Wx (sFor its g b) D σ H) : tFor (TIF K c.sh Wx its) (TGF K c ns g) (SF K c Wx b) D σ H := by
  obtain ⟨W, Y, Fm, δ, fr, k⟩ := h
  refine ⟨W, Y, Fm, δ, fr, ?_⟩
  unfold sFor at k
  cases q : its δ with
  | none => simp only [q] at k; exact k
  | some p =>
    obtain ⟨p, δ1⟩ := p
    cases p with
    | error er => simp only [q] at k; exact Kes.ke k
    | ok ts =>
      simp only [q] at k
      intro J H1 Fm1 f1 x1 wk
      obtain ⟨Gd, Yl, w, hw⟩ := wk
      have gx : ∀ {Fm' : Nat → List Addr} {H' : Hp}, Xt (Om Fm1) (Om Fm') H1 H' → ∀ a, Gw Y Fm' W a → Gw Y Fm1 W a ∨ H1 a = none := fun x => x.gw fun _ z => z
      refine for_it w (fun i σ' H' => ∃ Fm' δ', Kp c σ σ' ∧ Fr K c.sh W Y Fm' H' σ' δ' ∧ Xt (Om Fm1) (Om Fm') H1 H' ∧ Ks K c Wx W Y Fm' σ' H' (forM (ts.drop i) g b δ') D) ⟨Fm1, δ1, .refl, f1, .refl, k.shift .refl x1⟩ ?_ ?_ ?_
      · rintro i σ' H' hi ⟨Fm', δ', kp, f', x', _⟩
        exact (hw (Gw Y Fm' W) (Om Fm1) H' x'.1 (fun a z => .inl (.inl (.inr z))) (gx x') f'.al).1
      · rintro i x σ' H' H2 hi ⟨Fm', δ', kp, f', x', k'⟩ hy
        obtain ⟨e2, t, et, dt⟩ := (hw (Gw Y Fm' W) (Om Fm1) H' x'.1 (fun a z => .inl (.inl (.inr z))) (gx x') f'.al).2 i x H2 hi hy
        have ed : ts.drop i = t :: ts.drop (i + 1) := by
          rw [List.drop_eq_getElem_cons hi]
          congr 1
          rw [List.getElem?_eq_getElem hi] at et
          exact Option.some.inj et
        rw [ed] at k'
        unfold forM at k'
        cases q1 : g t δ' with
        | none => simp only [q1] at k'; exact k'.elim
        | some δ2 =>
          simp only [q1] at k'
          refine ⟨W, Y, Fm', δ', t, f'.ed0 e2, dt, δ2, q1, fun σ2 kp2 _ f2 => ⟨W, Y, Fm', δ2, f2, ?_⟩⟩
          cases q2 : b δ2 with
          | none => simp only [q2] at k'; exact k'
          | some p =>
            obtain ⟨p, δ3⟩ := p
            have k2 := k'.shift kp2 (EdP.xt0 e2)
            cases p with
            | nx =>
              simp only [q2] at k2
              exact fun σ3 H3 Fm3 kp3 f3 x3 => ⟨Fm3, δ3, (kp.tr kp2).tr kp3, f3, (x'.ed0 e2).tr x3, k2.shift kp3 x3⟩
            | cont =>
              simp only [q2] at k2
              exact fun σ3 H3 Fm3 kp3 f3 x3 => ⟨Fm3, δ3, (kp.tr kp2).tr kp3, f3, (x'.ed0 e2).tr x3, k2.shift kp3 x3⟩
            | brk => simp only [q2] at k2; exact k2
            | ret t => simp only [q2] at k2; exact k2
            | exc e => simp only [q2] at k2; exact k2
      · rintro σ' H' ⟨Fm', δ', kp, f', x', k'⟩
        rw [List.drop_length] at k'
        exact k' σ' H' Fm' .refl f' .refl
theorem ms_for {its : Il} {g : Gf} {ns : List Nat} {b : Sf} (hp : PassesOwn (model X.prog X.w) X.A X.env X.xe) (hi : PI X tg e (TIF K c.sh Wx its)) (hg : PG X tg (TGF K c ns g)) (hb : PSs X body (SF K c Wx b)) (hc : X.calm = true := by rfl)
    (hs : ∀ x, foldedSetIterable e X.env x = pure x := by intro _; rfl) : PS X (.For tg e body [] pos) (SF K c Wx (sFor its g b)) := ps_imp (ps_for hp hc hi hg hb hs) fun D σ H h => for_ok h
/-! ### while -/
def whileM : Nat → (Dl → Rb) → Sf → Sf
  | 0, _, _, _ => none
  | n + 1, t, b, δ => match t δ with
    | none => none
    | some (.error e, δ') => some (.exc e, δ')
    | some (.ok false, δ') => some (.nx, δ')
    | some (.ok true, δ1) => match b δ1 with
      | none => none
      | some (.nx, δ2) => whileM n t b δ2
      | some (.cont, δ2) => whileM n t b δ2
      | some (.brk, δ2) => some (.nx, δ2)
      | some (.ret t, δ2) => some (.ret t, δ2)
      | some (.exc e, δ2) => some (.exc e, δ2)
theorem ms_while {t : Expr} {g : Dl → Rb} {b : Sf} (n : Nat) (hp : PassesOwn (model X.prog X.w) X.A X.env X.xe) (ht : PT X t (TFT K c.sh Wx g)) (hb : PSs X body (SF K c Wx b)) : PS X (.While t body [] pos) (SF K c Wx (whileM n g b)) :=
  ps_imp (ps_while hp ht hb) fun D σ H ⟨W, Y, Fm, δ, fr, k⟩ => by
    refine ⟨fun m σ' H' => ∃ Fm' δ', Fr K c.sh W Y Fm' H' σ' δ' ∧ Ks K c Wx W Y Fm' σ' H' (whileM m g b δ') D, ⟨n, Fm, δ, fr, k⟩, ?_⟩
    rintro m σ' H' ⟨Fm', δ', f', k'⟩
    cases m with
    | zero => exact k'.elim
    | succ m =>
      refine ⟨W, Y, Fm', δ', f', ?_⟩
      unfold whileM at k'
      cases q : g δ' with
      | none => simp only [q] at k'; exact k'
      | some p =>
        obtain ⟨p, δ1⟩ := p
        cases p with
        | error er => simp only [q] at k'; exact Kes.ke k'
        | ok bb =>
          cases bb with
          | false => simp only [q] at k'; exact fun H1 Fm1 f1 x1 => iteF (k' σ' H1 Fm1 .refl f1 x1)
          | true =>
            simp only [q] at k'
            intro H1 Fm1 f1 x1
            refine iteT ⟨fun σ3 H3 => ∃ Fm3 δ3, Fr K c.sh W Y Fm3 H3 σ3 δ3 ∧ Ks K c Wx W Y Fm3 σ3 H3 (whileM m g b δ3) D, fun σ3 H3 h3 => ⟨m, Nat.lt_succ_self m, h3⟩, W, Y, Fm1, δ1, f1, ?_⟩
            have k2 := k'.shift (σ1 := σ') .refl x1
            cases q2 : b δ1 with
            | none => simp only [q2] at k2; exact k2
            | some p =>
              obtain ⟨p, δ3⟩ := p
              cases p with
              | nx => simp only [q2] at k2; exact fun σ3 H3 Fm3 kp3 f3 x3 => ⟨Fm3, δ3, f3, k2.shift kp3 x3⟩
              | cont => simp only [q2] at k2; exact fun σ3 H3 Fm3 kp3 f3 x3 => ⟨Fm3, δ3, f3, k2.shift kp3 x3⟩
              | brk => simp only [q2] at k2; exact k2
              | ret t => simp only [q2] at k2; exact k2
              | exc e => simp only [q2] at k2; exact k2
end
end NQ
namespace NQ
open PySem L2
/-! ### comprehensions -/
def wipeD (δ : Dl) : List Nat → Dl
  | [] => δ
  | v :: vs => (wipeD δ vs).set v none
theorem wipeD_len {δ : Dl} : ∀ {vs : List Nat}, (wipeD δ vs).length = δ.length
  | [] => rfl
  | v :: vs => by unfold wipeD; rw [List.length_set, wipeD_len]
theorem wipeD_out {δ : Dl} {i : Nat} : ∀ {vs : List Nat}, i ∉ vs → dAt (wipeD δ vs) i = dAt δ i
  | [], _ => rfl
  | v :: vs, h => by
    unfold wipeD
    rw [dAt_set_ne (fun z => h (by rw [z]; exact List.mem_cons_self ..))]
    exact wipeD_out fun z => h (List.mem_cons_of_mem _ z)
theorem wipeD_in {δ : Dl} {i : Nat} : ∀ {vs : List Nat}, i ∈ vs → dAt (wipeD δ vs) i = none
  | v :: vs, h => by
    unfold wipeD
    by_cases z : i = v
    · subst z
      cases q : dAt ((wipeD δ vs).set i none) i with
      | none => rfl
      | some t => exact absurd (dAt_set_eq q) (by simp)
    · rw [dAt_set_ne z]
      exact wipeD_in ((List.mem_cons.mp h).elim (fun w => absurd w z) id)
theorem wipe_out {σ : L2.St} {i : Nat} : ∀ {vs : List Nat}, i ∉ vs → (wipe σ vs)[i]? = σ[i]?
  | [], _ => rfl
  | v :: vs, h => by
    unfold wipe
    rw [List.getElem?_set_ne (fun z => h (by rw [← z]; exact List.mem_cons_self ..))]
    exact wipe_out fun z => h (List.mem_cons_of_mem _ z)
theorem wipe_in {σ : L2.St} {i : Nat} : ∀ {vs : List Nat}, i ∈ vs → i < σ.length → (wipe σ vs)[i]? = some none
  | v :: vs, h, hl => by
    unfold wipe
    by_cases z : v = i
    · subst z
      rw [List.getElem?_set_self (by rw [wipe_length]; exact hl)]
    · rw [List.getElem?_set_ne z]
      exact wipe_in ((List.mem_cons.mp h).elim (fun w => absurd w.symm z) id) hl
theorem On.wipe {ns vs : List Nat} {σ σ' : L2.St} (h : On ns σ σ') (hs : ∀ i ∈ ns, i ∈ vs) : L2.wipe σ' vs = L2.wipe σ vs := by
  refine List.ext_getElem? fun i => ?_
  by_cases hi : i ∈ vs
  · by_cases hl : i < σ.length
    · rw [wipe_in hi hl, wipe_in hi (by rw [h.1]; exact hl)]
    · rw [List.getElem?_eq_none_iff.mpr (by rw [wipe_length, h.1]; omega), List.getElem?_eq_none_iff.mpr (by rw [wipe_length]; omega)]
  · rw [wipe_out hi, wipe_out hi]
    exact h.2 i fun z => hi (hs i z)
section
variable {K : PySem.W.Frag} {sh : Nat → Sh} {W : Addr → Prop} {Y : List Addr} {Fm : Nat → List Addr} {H H' : Hp} {σ : L2.St} {δ : Dl} {vs : List Nat}
theorem Fr.wipe (f : Fr K sh W Y Fm H σ δ) (hv : ∀ i ∈ vs, sh i = .fz) : Fr K sh W Y Fm H (L2.wipe σ vs) (wipeD δ vs) := by
  refine ⟨fun i t e => ?_, fun i e => ?_, f.nd, f.dj, f.dw, f.wl, by rw [wipeD_len, wipe_length]; exact f.len, f.xn, f.xd, f.xw, f.xl⟩
  · by_cases hi : i ∈ vs
    · rw [wipeD_in hi] at e; cases e
    · rw [wipeD_out hi] at e
      obtain ⟨v, h1, h2⟩ := f.rel i t e
      exact ⟨v, by rw [wipe_out hi]; exact h1, h2⟩
  · by_cases hi : i ∈ vs
    · exact f.fz0 (hv i hi)
    · rw [wipeD_out hi] at e
      exact f.un i e
theorem Fr.wipe2 {σ2 : L2.St} (f : Fr K sh W Y Fm H σ2 δ) (hv : ∀ i ∈ vs, sh i = .fz) (e : L2.wipe σ2 vs = L2.wipe σ vs) : Fr K sh W Y Fm H (L2.wipe σ vs) (wipeD δ vs) := by
  rw [← e]
  exact f.wipe hv
theorem Fr.unwipe (f : Fr K sh W Y Fm H (L2.wipe σ vs) δ) (hv : ∀ i ∈ vs, dAt δ i = none) : Fr K sh W Y Fm H σ δ := by
  refine ⟨fun i t e => ?_, f.un, f.nd, f.dj, f.dw, f.wl, by rw [← wipe_length σ vs]; exact f.len, f.xn, f.xd, f.xw, f.xl⟩
  obtain ⟨v, h1, h2⟩ := f.rel i t e
  exact ⟨v, (wipe_some h1).1, h2⟩
/-- a held place is written -/
theorem Fr.touch {D : Addr} (f : Fr K sh W Y Fm H σ δ) (hD : D ∈ Y) (e : EdP (fun a => a = D) H H') : Fr K sh W Y Fm H' σ δ := by
  refine ⟨fun i t h => ?_, f.un, f.nd, f.dj, f.dw, fun a z => e.2 a (f.wl a z), f.len, f.xn, f.xd, f.xw, fun a z => e.2 a (f.xl a z)⟩
  obtain ⟨v, h1, h2⟩ := f.rel i t h
  refine ⟨v, h1, h2.step e (fun a z => .inl (.inl (by rw [z]; exact hD))) (fun a z => .inl z) (fun a z => .inl z) fun a z w => ?_⟩
  subst w
  exact f.xd i a hD z
end
/-- the items that a comprehension makes -/
def lcL (g : Gf) (cnd : Dl → Rb) (el : Dl → Rs) (vs : List Nat) : List T → Dl → Option (List T × Dl)
  | [], δ => some ([], δ)
  | t :: r, δ => match g t δ with
    | none => none
    | some δ1 => match cnd δ1 with
      | some (.ok true, δ2) => match el δ2 with
        | some (.ok u, δ3) => match lcL g cnd el vs r (wipeD δ3 vs) with
          | some (us, δ4) => some (u :: us, δ4)
          | none => none
        | _ => none
      | some (.ok false, δ2) => lcL g cnd el vs r (wipeD δ2 vs)
      | _ => none
def lcE (its : Il) (g : Gf) (cnd : Dl → Rb) (el : Dl → Rs) (vs : List Nat) : Dl → Rs := fun δ => match its δ with
  | none => none
  | some (.error e, δ') => some (.error e, δ')
  | some (.ok ts, δ') => if ts.length < sizeLine then (match lcL g cnd el vs ts (wipeD δ' vs) with
    | some (us, δ2) => some (.ok (.lst us), δ2)
    | none => none) else none
theorem lcL_wiped {g : Gf} {cnd : Dl → Rb} {el : Dl → Rs} {vs : List Nat} : ∀ {ts : List T} {δ δ' : Dl} {us : List T}, lcL g cnd el vs ts δ = some (us, δ') → (∀ i ∈ vs, dAt δ i = none) → ∀ i ∈ vs, dAt δ' i = none
  | [], δ, δ', us, e, h => by cases e; exact h
  | t :: r, δ, δ', us, e, h => by
    unfold lcL at e
    split at e
    · cases e
    · split at e
      · split at e
        · split at e
          · rename_i q
            cases e
            exact lcL_wiped q fun i hi => wipeD_in hi
          · cases e
        · cases e
      · exact lcL_wiped e fun i hi => wipeD_in hi
      · cases e
abbrev noW : WX := fun _ _ _ _ => False
section
variable {X : Cx} {K : PySem.W.Frag} {c : Cf} {Wx : WX} {its : Il} {g : Gf} {cnd : Dl → Rb} {el : Dl → Rs} {vs ns : List Nat} {σ : L2.St} {H : Hp} {Q : VK}
theorem lc_ok (hns : ∀ i ∈ ns, i ∈ vs) (hv : ∀ i ∈ vs, c.sh i = .fz) (h : TN K c.sh (.all .fz) Wx (lcE its g cnd el vs) σ H Q) : tLc (TIF K c.sh Wx its) (TGF K c ns g) (TFT K c.sh noW cnd) (TF K c.sh noW el) vs σ H Q := by
  obtain ⟨W, Y, Fm, δ, fr, k⟩ := h
  refine ⟨W, Y, Fm, δ, fr, ?_⟩
  unfold lcE at k
  cases q : its δ with
  | none => simp only [q] at k; exact k
  | some p =>
    obtain ⟨p, δ1⟩ := p
    cases p with
    | error er => simp only [q] at k; exact k
    | ok ts =>
      simp only [q] at k
      split at k
      · rename_i hlt
        cases q1 : lcL g cnd el vs ts (wipeD δ1 vs) with
        | none => simp only [q1] at k; exact k.elim
        | some r =>
          obtain ⟨us, δ2⟩ := r
          simp only [q1] at k
          intro J H1 Fm1 f1 x1 wk D hD
          obtain ⟨Gd, Yl, w, hw⟩ := wk
          have e0 : EdP noA H1 (upd H1 D (.lst [])) := EdP.new hD
          have gx : ∀ {Fm' : Nat → List Addr} {H' : Hp}, Xt (Om Fm1) (Om Fm') (upd H1 D (.lst [])) H' → H' D ≠ none → ∀ a, Gw ([D] ++ Y) Fm' W a → Gw Y Fm1 W a ∨ H1 a = none := fun {Fm' H'} x _ a z => by
            rcases z with (z | z) | z
            · rcases List.mem_append.mp z with z | z
              · exact .inr (by rw [List.mem_singleton.mp z]; exact hD)
              · exact .inl (.inl (.inl z))
            · exact (x.2 a z).imp (fun y => .inl (.inr y)) fun y => e0.free y
            · exact .inl (.inr z)
          -- from H1 to a later heap: one's own and D may change
          have ex : ∀ {Fm' : Nat → List Addr} {H' : Hp} {ds : List V}, EdP (fun a => a = D ∨ Om Fm1 a) (upd H1 D (.lst [])) H' → EdP (fun a => a = D ∨ Om Fm1 a) H1 H' := fun x => (e0.weak fun _ z => z.elim).tr x fun a z => .inl z
          have hu : ∀ a, (a = D ∨ Om Fm1 a) → Gw Y Fm1 W a ∨ H1 a = none := fun a z => z.elim (fun y => .inr (by rw [y]; exact hD)) fun y => .inl (.inl (.inr y))
          refine lc_it w (fun i H' => ∃ Fm' δ' acc ds us', Fr K c.sh W ([D] ++ Y) Fm' H' (L2.wipe σ vs) δ' ∧ EdP (fun a => a = D ∨ Om Fm1 a) H1 H' ∧ (∀ a, Om Fm' a → Om Fm1 a ∨ H1 a = none) ∧ H' D = some (.lst ds) ∧ DfL K (Gw ([D] ++ Y) Fm' W) H' ds acc ∧ lcL g cnd el vs (ts.drop i) δ' = some (us', δ2) ∧ acc ++ us' = us ∧ acc.length ≤ i ∧ ∀ j ∈ vs, dAt δ' j = none)
            ⟨Fm1, wipeD δ1 vs, [], [], us, (f1.hold hD e0 (by rw [upd_same]; exact fun z => nomatch z)).wipe hv, e0.weak fun _ z => z.elim, fun a z => .inl z, upd_same, .nil, q1, rfl, Nat.le_refl _, fun j hj => wipeD_in hj⟩ ?_ ?_ ?_
          · rintro i H' hi ⟨Fm', δ', acc, ds, us', f', e', o', hd', _⟩
            refine (hw (Gw ([D] ++ Y) Fm' W) _ H' e' hu (fun a z => ?_) f'.al).1
            rcases z with (z | z) | z
            · rcases List.mem_append.mp z with z | z
              · exact .inr (by rw [List.mem_singleton.mp z]; exact hD)
              · exact .inl (.inl (.inl z))
            · exact (o' a z).imp (fun y => .inl (.inr y)) id
            · exact .inl (.inr z)
          · rintro i x H' H2 hi ⟨Fm', δ', acc, ds, us', f', e', o', hd', da, hl, hus, hlen, hwp⟩ hy
            obtain ⟨e2, t, et, dt⟩ := (hw (Gw ([D] ++ Y) Fm' W) _ H' e' hu (fun a z => by
              rcases z with (z | z) | z
              · rcases List.mem_append.mp z with z | z
                · exact .inr (by rw [List.mem_singleton.mp z]; exact hD)
                · exact .inl (.inl (.inl z))
              · exact (o' a z).imp (fun y => .inl (.inr y)) id
              · exact .inl (.inr z)) f'.al).2 i x H2 hi hy
            have ed : ts.drop i = t :: ts.drop (i + 1) := by
              rw [List.drop_eq_getElem_cons hi]
              congr 1
              rw [List.getElem?_eq_getElem hi] at et
              exact Option.some.inj et
            rw [ed] at hl
            unfold lcL at hl
            cases g1 : g t δ' with
            | none => simp only [g1] at hl; cases hl
            | some δ3 =>
              simp only [g1] at hl
              refine ⟨W, [D] ++ Y, Fm', δ', t, f'.ed0 e2, dt, δ3, g1, fun σ2 kp2 on2 f2 => ?_⟩
              have ew : L2.wipe σ2 vs = L2.wipe σ vs := by
                rw [on2.wipe hns]
                have : On vs σ (L2.wipe σ vs) := ⟨wipe_length σ vs, fun i hi => wipe_out hi⟩
                exact this.wipe fun _ z => z
              refine ⟨ew, W, [D] ++ Y, Fm', δ3, f2, ?_⟩
              have stepE : ∀ {Fm4 : Nat → List Addr} {H4 : Hp}, Xt (Om Fm') (Om Fm4) H2 H4 → EdP (fun a => a = D ∨ Om Fm1 a) H1 H4 ∧ (∀ a, Om Fm4 a → Om Fm1 a ∨ H1 a = none) ∧ H4 D = some (.lst ds) ∧ DfL K (Gw ([D] ++ Y) Fm4 W) H4 ds acc := fun {Fm4 H4} x4 => by
                have e12 := e'.tr e2 fun _ z => z.elim
                refine ⟨e12.tr x4.1 fun a z => (o' a z).imp .inr id, fun a z => (x4.2 a z).elim (fun y => o' a y) fun y => .inr (e12.free y), ?_, ?_⟩
                · exact x4.1.1 _ _ (fun ⟨j, z⟩ => f'.xd j D (List.mem_append_left _ (List.mem_singleton.mpr rfl)) z) (e2.1 _ _ (fun z => z) hd')
                · exact (da.ed0 e2).step x4.1 (fun a z => .inl (.inl (.inr z))) (x4.gw fun _ z => z)
              cases c1 : cnd δ3 with
              | none => simp only [c1] at hl; cases hl
              | some p =>
                obtain ⟨p, δ4⟩ := p
                cases p with
                | error er => simp only [c1] at hl; cases hl
                | ok bb =>
                  cases bb with
                  | false =>
                    simp only [c1] at hl
                    intro H4 Fm4 f4 x4
                    refine iteF ?_
                    obtain ⟨k1, k2, k3, k4⟩ := stepE x4
                    exact ⟨Fm4, wipeD δ4 vs, acc, ds, us', f4.wipe2 hv ew, k1, k2, k3, k4, hl, hus, by omega, fun j hj => wipeD_in hj⟩
                  | true =>
                    simp only [c1] at hl
                    intro H4 Fm4 f4 x4
                    refine iteT ⟨W, [D] ++ Y, Fm4, δ4, f4, ?_⟩
                    cases l1 : el δ4 with
                    | none => simp only [l1] at hl; cases hl
                    | some p =>
                      obtain ⟨p, δ5⟩ := p
                      cases p with
                      | error er => simp only [l1] at hl; cases hl
                      | ok u =>
                        simp only [l1] at hl
                        cases r1 : lcL g cnd el vs (ts.drop (i + 1)) (wipeD δ5 vs) with
                        | none => simp only [r1] at hl; cases hl
                        | some r =>
                          obtain ⟨us2, δ6⟩ := r
                          simp only [r1] at hl
                          cases hl
                          intro y H5 Fm5 f5 x5 dy
                          obtain ⟨k1, k2, k3, k4⟩ := stepE (x4.tr x5)
                          have eD : EdP (fun a => a = D) H5 (upd H5 D (.lst (ds ++ [y]))) := EdP.put
                          have hDm : D ∈ [D] ++ Y := List.mem_append_left _ (List.mem_singleton.mpr rfl)
                          refine ⟨ds, k3, by rw [k4.length]; omega, Fm5, wipeD δ5 vs, acc ++ [u], ds ++ [y], us2, (f5.wipe2 hv ew).touch hDm eD, k1.tr eD fun a z => .inl (.inl z), k2, upd_same, ?_, r1, by rw [List.append_assoc]; exact hus, by rw [List.length_append, List.length_singleton]; omega, fun j hj => wipeD_in hj⟩
                          exact (k4.app (.cons dy .nil)).step eD (fun a z => .inl (.inl (.inl (by rw [z]; exact hDm)))) fun a z => .inl z
          · rintro H' ⟨Fm', δ', acc, ds, us', f', e', o', hd', da, hl, hus, hlen, hwp⟩
            rw [List.drop_length] at hl
            cases hl
            rw [List.append_nil] at hus
            subst hus
            refine k (.ref D) H' Fm' [D] (f'.unwipe hwp) ?_ ⟨?_, fun a z => ?_⟩
            · exact Ow.nd hd' rfl (DfL.ow da)
            · have := (x1.1.tr e' (fun a z => z.elim (fun y => .inr (x1.1.free (by rw [y]; exact hD))) fun y => x1.2 a y) : EdP (Om Fm) H H')
              exact this
            · rcases z with z | z
              · exact .inr (x1.1.free (by rw [List.mem_singleton.mp z]; exact hD))
              · exact (o' a z).elim (fun y => x1.2 a y) fun y => .inr (x1.1.free y)
      · exact k.elim
end
end NQ
namespace NQ
open PySem L2
/-! ### comprehensions as expressions -/
def yesB : Dl → Rb := fun δ => some (.ok true, δ)
section
variable {X : Cx} {K : PySem.W.Frag} {c : Cf} {Wx : WX} {its : Il} {g : Gf} {cnd : Dl → Rb} {el : Dl → Rs} {ns : List Nat} {elt tg iter : Expr} {ifs : List Expr} {scope : Scope} {own : List (Str × Nat)} {pos : Pos}
theorem pts_imp {t t' : TT} (h : PTs X ifs t) (i : ∀ σ H Q, t' σ H Q → t σ H Q) : PTs X ifs t' := ⟨fun pins s σ H Q I q => h.run pins s σ H Q I (i σ H Q q)⟩
theorem mts_nil {sh : Nat → Sh} : PTs X [] (TFT K sh Wx yesB) := pts_imp pts_nil fun σ H Q ⟨W, Y, Fm, δ, fr, k⟩ => k H Fm fr .refl
theorem mts_one {sh : Nat → Sh} {e : Expr} (h : PT X e (TFT K sh Wx cnd)) : PTs X [e] (TFT K sh Wx cnd) := pts_one h
theorem m_lc (hN : X.N.Nodup) (hi : PI X tg iter (TIF K c.sh Wx its)) (ok : BlkOk X.N X.env.scope scope own)
    (hg : ∀ (s : Shared) (H : Hp) (C : Addr) (cl : List (Str × Addr)) (fp : List Addr), PG (X.blk s H scope (compEnvC scope cl C X.env) fp) tg (TGF K c ns g)) (ht : ∀ (s : Shared) (H : Hp) (C : Addr) (cl : List (Str × Addr)) (fp : List Addr), PTs (X.blk s H scope (compEnvC scope cl C X.env) fp) ifs (TFT K c.sh noW cnd))
    (he : ∀ (s : Shared) (H : Hp) (C : Addr) (cl : List (Str × Addr)) (fp : List Addr), PE (X.blk s H scope (compEnvC scope cl C X.env) fp) elt (TF K c.sh noW el)) (hns : ∀ i ∈ ns, i ∈ own.map (·.2) := by decide) (hv : ∀ i ∈ own.map (·.2), c.sh i = .fz := by intro i hi; simp at hi; rcases hi with rfl | rfl | rfl | rfl | rfl <;> rfl) (hc : X.calm = true := by rfl)
    (hs : ∀ x, foldedSetIterable iter X.env x = pure x := by intro _; rfl) : PE X (.ListComp elt [⟨tg, iter, ifs, 0⟩] scope pos) (TN K c.sh (.all .fz) Wx (lcE its g cnd el (own.map (·.2)))) :=
  pe_imp (pe_lc hc hN hi ok hg ht he hs) fun σ H Q h => lc_ok hns hv h
variable {y : Str} {py spos : Pos}
theorem ms_setLcN (i : Nat) (hN : X.N.Nodup) (hi : PI X tg iter (TIF K c.sh Wx its)) (ok : BlkOk X.N X.env.scope scope own)
    (hg : ∀ (s : Shared) (H : Hp) (C : Addr) (cl : List (Str × Addr)) (fp : List Addr), PG (X.blk s H scope (compEnvC scope cl C X.env) fp) tg (TGF K c ns g)) (ht : ∀ (s : Shared) (H : Hp) (C : Addr) (cl : List (Str × Addr)) (fp : List Addr), PTs (X.blk s H scope (compEnvC scope cl C X.env) fp) ifs (TFT K c.sh noW cnd))
    (he : ∀ (s : Shared) (H : Hp) (C : Addr) (cl : List (Str × Addr)) (fp : List Addr), PE (X.blk s H scope (compEnvC scope cl C X.env) fp) elt (TF K c.sh noW el)) (hns : ∀ i ∈ ns, i ∈ own.map (·.2) := by decide) (hv : ∀ i ∈ own.map (·.2), c.sh i = .fz := by intro i hi; simp at hi; rcases hi with rfl | rfl | rfl | rfl | rfl <;> rfl)
    (hsi : c.sh i = .all .fz := by rfl) (hp : c.pr i = false := by rfl) (hy : X.N[i]? = some y := by rfl) (hyl : X.env.scope.names.lookup y = some .local := by rfl) (hsw : swapsWith (.ListComp elt [⟨tg, iter, ifs, 0⟩] scope pos) (some (.Name y py)) spos.line X.env = pure true := by exact sw_true rfl rfl rfl (by decide +kernel)) (hc : X.calm = true := by rfl)
    (hs : ∀ x, foldedSetIterable iter X.env x = pure x := by intro _; rfl) : PS X (.Assign [.Name y py] (.ListComp elt [⟨tg, iter, ifs, 0⟩] scope pos) spos) (SF K c Wx (sSetN i (lcE its g cnd el (own.map (·.2))))) :=
  ps_imp (ps_setLc hc hN hy hyl hsw hi ok hg ht he hs) fun D σ H ⟨W, Y, Fm, δ, fr, k⟩ => by
    refine lc_ok hns hv ⟨W, Y, Fm, δ, fr, ?_⟩
    unfold sSetN at k
    cases q : lcE its g cnd el (own.map (·.2)) δ with
    | none => simp only [q] at k; exact k
    | some p =>
      obtain ⟨p, δ'⟩ := p
      cases p with
      | error er => simp only [q] at k; exact Kes.ke k
      | ok t =>
        simp only [q] at k
        split at k
        · rename_i hl
          exact fun x H' Fm' F f' o x' => set_own hp ⟨hl, k⟩ f' (by rw [hsi]; exact o) x'
        · exact k.elim
theorem ms_setLc (i : Nat) (hN : X.N.Nodup) (hi : PI X tg iter (TIF K c.sh Wx its)) (ok : BlkOk X.N X.env.scope scope own)
    (hg : ∀ (s : Shared) (H : Hp) (C : Addr) (cl : List (Str × Addr)) (fp : List Addr), PG (X.blk s H scope (compEnvC scope cl C X.env) fp) tg (TGF K c ns g)) (ht : ∀ (s : Shared) (H : Hp) (C : Addr) (cl : List (Str × Addr)) (fp : List Addr), PTs (X.blk s H scope (compEnvC scope cl C X.env) fp) ifs (TFT K c.sh noW cnd))
    (he : ∀ (s : Shared) (H : Hp) (C : Addr) (cl : List (Str × Addr)) (fp : List Addr), PE (X.blk s H scope (compEnvC scope cl C X.env) fp) elt (TF K c.sh noW el)) (hns : ∀ i ∈ ns, i ∈ own.map (·.2) := by decide) (hv : ∀ i ∈ own.map (·.2), c.sh i = .fz := by intro i hi; simp at hi; rcases hi with rfl | rfl | rfl | rfl | rfl <;> rfl)
    (hsi : c.sh i = .fz := by rfl) (hp : c.pr i = false := by rfl) (hy : X.N[i]? = some y := by rfl) (hyl : X.env.scope.names.lookup y = some .local := by rfl) (hsw : swapsWith (.ListComp elt [⟨tg, iter, ifs, 0⟩] scope pos) (some (.Name y py)) spos.line X.env = pure true := by exact sw_true rfl rfl rfl (by decide +kernel)) (hc : X.calm = true := by rfl)
    (hs : ∀ x, foldedSetIterable iter X.env x = pure x := by intro _; rfl) : PS X (.Assign [.Name y py] (.ListComp elt [⟨tg, iter, ifs, 0⟩] scope pos) spos) (SF K c Wx (sSet i (lcE its g cnd el (own.map (·.2))))) :=
  ps_imp (ps_setLc hc hN hy hyl hsw hi ok hg ht he hs) fun D σ H ⟨W, Y, Fm, δ, fr, k⟩ => by
    refine lc_ok hns hv ⟨W, Y, Fm, δ, fr, ?_⟩
    unfold sSet at k
    cases q : lcE its g cnd el (own.map (·.2)) δ with
    | none => simp only [q] at k; exact k
    | some p =>
      obtain ⟨p, δ'⟩ := p
      cases p with
      | error er => simp only [q] at k; exact Kes.ke k
      | ok t =>
        simp only [q] at k
        intro x H' Fm' F f' o x'
        have nx := List.nodup_append.mp f'.xn
        have f2 := f'.let
        have d : Df K (Gw Y Fm' W) H' x t := o.freeze fun a z => ⟨z.imp (fun z => z.imp (fun w => List.mem_append_right _ w) id) id, fun w => by
          rcases z with (z | ⟨i, z⟩) | z
          · exact nx.2.2 a w a z rfl
          · exact f'.xd i a (List.mem_append_left _ w) z
          · exact f'.xw a (List.mem_append_left _ w) z⟩
        exact k _ H' Fm' (Kp.set hp) (f2.set (f2.fz0 hsi) (by rw [hsi]; exact .inr (.fz d))) ⟨x'.1, fun a z => x'.2 a (.inr z)⟩
end
/-! ### places in what is one's own -/
inductive Pt where
  | fld (c f : Str) | ix (k : Int)
def setAt {α : Type} (xs : List α) (k : Int) (x : α) : Option (List α) := match ixN xs.length k with
  | some j => some (xs.set j x)
  | none => none
/-- the part f of an object -/
def fldAt : List Str → List T → Str → Option T
  | f :: fs, t :: ts, g => if f = g then some t else fldAt fs ts g
  | _, _, _ => none
def fldSet : List Str → List T → Str → T → Option (List T)
  | f :: fs, t :: ts, g, u => if f = g then some (u :: ts) else (match fldSet fs ts g u with | some r => some (t :: r) | none => none)
  | _, _, _, _ => none
def getP : T → List Pt → Option T
  | t, [] => some t
  | .ins c fs ts, .fld c' f :: π => if c = c' then (match fldAt fs ts f with | some u => getP u π | none => none) else none
  | .lst ts, .ix k :: π => match atI ts k with
    | some u => getP u π
    | none => none
  | _, _ :: _ => none
def setP : T → List Pt → T → Option T
  | _, [], w => some w
  | .ins c fs ts, .fld c' f :: π, w => if c = c' then (match fldAt fs ts f with
      | some u => match setP u π w with
        | some u' => match fldSet fs ts f u' with
          | some ts' => some (.ins c fs ts')
          | none => none
        | none => none
      | none => none) else none
  | .lst ts, .ix k :: π, w => match atI ts k with
    | some u => match setP u π w with
      | some u' => match setAt ts k u' with
        | some ts' => some (.lst ts')
        | none => none
      | none => none
    | none => none
  | _, _ :: _, _ => none
def shP : Sh → List Pt → Option Sh
  | s, [] => some s
  | .flds d, .fld _ f :: π => shP ((d.lookup f).getD .fz) π
  | .all s, .ix _ :: π => shP s π
  | _, _ :: _ => none
/-- the value at a place -/
def pathV (K : PySem.W.Frag) (H : Hp) : V → List Pt → V → Prop
  | v, [], v' => v = v'
  | v, .fld c f :: π, v' => ∃ a dx fs u, v = .ref a ∧ H a = some (.ins (He.ga K c) dx fs) ∧ fs.lookup f = some u ∧ pathV K H u π v'
  | v, .ix k :: π, v' => ∃ a vs u, v = .ref a ∧ H a = some (.lst vs) ∧ atI vs k = some u ∧ pathV K H u π v'
end NQ
namespace NQ
open PySem L2
section
variable {K : PySem.W.Frag} {G : Addr → Prop} {H : Hp}
/-- one part of several that are one's own -/
theorem OwL.split : ∀ {ss : List Sh} {F : List Addr} {vs : List V} {ts : List T} {j : Nat} {t : T}, OwL K G H ss F vs ts → ts[j]? = some t → F.Nodup → (∀ a ∈ F, G a) → ∃ F1 F2 F3 v s, F = F1 ++ F2 ++ F3 ∧ ss[j]? = some s ∧ vs[j]? = some v ∧ Ow K G H s F2 v t ∧
    ∀ (G' U : Addr → Prop) (H' : Hp) (F2' : List Addr) (t' : T), EdP U H H' → (∀ a, U a → a ∈ F2 ∨ H a = none) → (∀ a, G' a → G a ∨ H a = none) → Ow K G' H' s F2' v t' → OwL K G' H' ss (F1 ++ F2' ++ F3) vs (ts.set j t')
  | _, _, _, _, j, t, .nil, e, _, _ => by simp at e
  | s :: ss, _, v :: vs, u :: ts, 0, t, .cons (F := F) (F' := F') h r, e, nd, hG => by
    simp at e
    subst e
    have nx := List.nodup_append.mp nd
    refine ⟨[], F, F', v, s, by simp, rfl, rfl, h, fun G' U H' F2' t' ed hu hg o => ?_⟩
    rw [List.nil_append]
    refine OwL.cons o (r.step ed (fun a z => (hu a z).imp (fun w => hG a (List.mem_append_left _ w)) id) hg fun a z w => ?_)
    exact (hu a w).elim (fun y => nx.2.2 a y a z rfl) fun y => r.alive a z y
  | s :: ss, _, v :: vs, u :: ts, j + 1, t, .cons (F := F) (F' := F') h r, e, nd, hG => by
    have nx := List.nodup_append.mp nd
    obtain ⟨F1, F2, F3, v', s', eF, h1, h2, h3, h4⟩ := OwL.split (j := j) r (by simpa using e) nx.2.1 fun a z => hG a (List.mem_append_right _ z)
    refine ⟨F ++ F1, F2, F3, v', s', by rw [eF]; simp [List.append_assoc], by simpa using h1, by simpa using h2, h3, fun G' U H' F2' t' ed hu hg o => ?_⟩
    have := OwL.cons (h.step ed (fun a z => (hu a z).imp (fun w => hG a (List.mem_append_right _ (by rw [eF]; exact List.mem_append_left _ (List.mem_append_right _ w)))) id) hg fun a z w => (hu a w).elim (fun y => nx.2.2 a z a (by rw [eF]; exact List.mem_append_left _ (List.mem_append_right _ y)) rfl) fun y => h.alive a z y) (h4 G' U H' F2' t' ed hu hg o)
    rw [List.set_cons_succ]
    have e2 : F ++ F1 ++ F2' ++ F3 = F ++ (F1 ++ F2' ++ F3) := by simp [List.append_assoc]
    rw [e2]
    exact this
theorem fld_idx : ∀ {fs : List Str} {ts : List T} {f : Str} {u : T}, fldAt fs ts f = some u → ∃ j : Nat, fs[j]? = some f ∧ ts[j]? = some u ∧ (∀ w, fldSet fs ts f w = some (ts.set j w)) ∧ ∀ vs : List V, fs.length = vs.length → (fs.zip vs).lookup f = vs[j]?
  | [], _, _, _, e => by simp [fldAt] at e
  | _ :: _, [], _, _, e => by simp [fldAt] at e
  | g :: fs, t :: ts, f, u, e => by
    unfold fldAt at e
    by_cases z : g = f
    · rw [if_pos z] at e
      cases e
      subst z
      refine ⟨0, rfl, rfl, fun w => by unfold fldSet; rw [if_pos rfl]; rfl, fun vs hl => ?_⟩
      cases vs with
      | nil => simp at hl
      | cons v vs => simp [List.lookup]
    · rw [if_neg z] at e
      obtain ⟨j, h1, h2, h3, h4⟩ := fld_idx e
      refine ⟨j + 1, by simpa using h1, by simpa using h2, fun w => by rw [fldSet, if_neg z, h3 w]; rfl, fun vs hl => ?_⟩
      cases vs with
      | nil => simp at hl
      | cons v vs =>
        have : (f == g) = false := by simpa using fun q => z q.symm
        simp only [List.zip_cons_cons, List.lookup, this]
        rw [h4 vs (by simpa using hl)]
        simp
theorem atI_ix {α : Type} {ys : List α} {i : Int} {y : α} (e : atI ys i = some y) : ∃ j : Nat, ixN ys.length i = some j ∧ ys[j]? = some y := by
  unfold atI at e
  cases q : ixN ys.length i with
  | none => rw [q] at e; cases e
  | some j => rw [q] at e; exact ⟨j, rfl, e⟩
/-- what lies at a place of what is one's own, and what it is when that changes -/
theorem focus : ∀ {π : List Pt} {s s' : Sh} {F : List Addr} {v : V} {t t' : T}, Ow K G H s F v t → shP s π = some s' → getP t π = some t' → F.Nodup → (∀ a ∈ F, G a) → ∃ F1 F2 F3 v', F = F1 ++ F2 ++ F3 ∧ Ow K G H s' F2 v' t' ∧ pathV K H v π v' ∧
    ∀ (G' U : Addr → Prop) (H' : Hp) (F2' : List Addr) (w : T), EdP U H H' → (∀ a, U a → a ∈ F2 ∨ H a = none) → (∀ a, G' a → G a ∨ H a = none) → Ow K G' H' s' F2' v' w → ∃ t2, setP t π w = some t2 ∧ Ow K G' H' s (F1 ++ F2' ++ F3) v t2
  | [], s, s', F, v, t, t', o, hs, hg, nd, hG => by
    have es : s = s' := by cases s <;> exact Option.some.inj hs
    have et : t = t' := by cases t <;> exact Option.some.inj hg
    subst es et
    exact ⟨[], F, [], v, by simp, o, rfl, fun G' U H' F2' w ed hu hg o' => ⟨w, by cases t <;> rfl, by simpa using o'⟩⟩
  | .fld c f :: π, .flds d, s', _, _, t, t', .nd (a := a) (F := F) (vs := vs) (ss := ss) ce k r, hs, hg, nd, hG => by
    cases t with
    | ins c' fs ts =>
      unfold getP at hg
      split at hg
      · rename_i ec
        subst ec
        split at hg
        · rename_i u q
          obtain ⟨j, j1, j2, j3, j4⟩ := fld_idx q
          cases k
          have nn := List.nodup_cons.mp nd
          obtain ⟨F1, F2, F3, v1, s1, eF, h1, h2, h3, h4⟩ := r.split (j := j) j2 nn.2 fun b z => hG b (List.mem_cons_of_mem _ z)
          rw [List.getElem?_map, j1] at h1
          cases h1
          have n2 : F2.Nodup := by rw [eF] at nn; exact (List.nodup_append.mp (List.nodup_append.mp nn.2).1).2.1
          obtain ⟨P1, P2, P3, v', eP, q1, q2, q3⟩ := focus (π := π) h3 hs hg n2 fun b z => hG b (List.mem_cons_of_mem _ (by rw [eF]; exact List.mem_append_left _ (List.mem_append_right _ z)))
          obtain ⟨cl, dx, ch⟩ := ce
          refine ⟨a :: (F1 ++ P1), P2, P3 ++ F3, v', by rw [eF, eP]; simp [List.append_assoc], q1, ⟨a, dx, _, v1, rfl, ch, ?_, q2⟩, fun G' U H' F2' w ed hu hg' o' => ?_⟩
          · rw [j4 vs cl]; exact h2
          · have hu2 : ∀ b, U b → b ∈ F2 ∨ H b = none := fun b z => (hu b z).imp (fun y => by rw [eP]; exact List.mem_append_left _ (List.mem_append_right _ y)) id
            obtain ⟨u2, w1, w2⟩ := q3 G' U H' F2' w ed hu hg' o'
            have w3 := h4 G' U H' _ u2 ed hu2 hg' w2
            refine ⟨.ins c' fs (ts.set j u2), ?_, ?_⟩
            · unfold setP
              rw [if_pos rfl]
              simp only [q, w1, j3]
            · have na : ¬ U a := fun z => (hu2 a z).elim (fun y => nn.1 (by rw [eF]; exact List.mem_append_left _ (List.mem_append_right _ y))) fun y => by rw [ch] at y; cases y
              have := Ow.nd (s := .flds d) (t := .ins c' fs (ts.set j u2)) (vs := vs) ⟨cl, dx, ed.1 _ _ na ch⟩ rfl w3
              have e2 : a :: (F1 ++ P1) ++ F2' ++ (P3 ++ F3) = a :: (F1 ++ (P1 ++ F2' ++ P3) ++ F3) := by simp [List.append_assoc]
              rw [e2]
              exact this
        · cases hg
      · cases hg
    | _ => cases hg
  | .ix n :: π, .all s, s', _, _, t, t', .nd (a := a) (F := F) (vs := vs) (ss := ss) ce k r, hs, hg, nd, hG => by
    cases t with
    | lst ts =>
      unfold getP at hg
      split at hg
      · rename_i u q
        cases k
        have nn := List.nodup_cons.mp nd
        have hl : vs.length = ts.length := r.rp.length
        obtain ⟨j, jx, j1⟩ := atI_ix q
        have j2 : atI vs n = vs[j]? := by unfold atI; rw [hl, jx]; rfl
        obtain ⟨F1, F2, F3, v1, s1, eF, h1, h2, h3, h4⟩ := r.split (j := j) j1 nn.2 fun b z => hG b (List.mem_cons_of_mem _ z)
        rw [List.getElem?_map, j1] at h1
        cases h1
        have n2 : F2.Nodup := by rw [eF] at nn; exact (List.nodup_append.mp (List.nodup_append.mp nn.2).1).2.1
        obtain ⟨P1, P2, P3, v', eP, q1, q2, q3⟩ := focus (π := π) h3 hs hg n2 fun b z => hG b (List.mem_cons_of_mem _ (by rw [eF]; exact List.mem_append_left _ (List.mem_append_right _ z)))
        refine ⟨a :: (F1 ++ P1), P2, P3 ++ F3, v', by rw [eF, eP]; simp [List.append_assoc], q1, ⟨a, vs, v1, rfl, ce, by rw [j2]; exact h2, q2⟩, fun G' U H' F2' w ed hu hg' o' => ?_⟩
        have hu2 : ∀ b, U b → b ∈ F2 ∨ H b = none := fun b z => (hu b z).imp (fun y => by rw [eP]; exact List.mem_append_left _ (List.mem_append_right _ y)) id
        obtain ⟨u2, w1, w2⟩ := q3 G' U H' F2' w ed hu hg' o'
        have w3 := h4 G' U H' _ u2 ed hu2 hg' w2
        have hset : setAt ts n u2 = some (ts.set j u2) := by unfold setAt; rw [jx]
        refine ⟨.lst (ts.set j u2), ?_, ?_⟩
        · unfold setP
          simp only [q, w1, hset]
        · have na : ¬ U a := fun z => (hu2 a z).elim (fun y => nn.1 (by rw [eF]; exact List.mem_append_left _ (List.mem_append_right _ y))) fun y => by rw [show H a = some (.lst vs) from ce] at y; cases y
          have := Ow.nd (s := .all s) (t := .lst (ts.set j u2)) (vs := vs) (ss := (ts.set j u2).map fun _ => s) (ed.1 _ _ na ce) rfl (by
            have e3 : ((ts.set j u2).map fun _ => s) = (T.lst ts).kids.map fun _ => s := by
              show _ = ts.map fun _ => s
              rw [List.map_set]
              exact List.ext_getElem? fun i => by
                by_cases z : j = i
                · subst z
                  by_cases lt : j < ts.length
                  · rw [List.getElem?_set_self (by simpa using lt), List.getElem?_map, List.getElem?_eq_getElem lt]; rfl
                  · rw [List.getElem?_eq_none_iff.mpr (by simp; omega), List.getElem?_eq_none_iff.mpr (by simp; omega)]
                · rw [List.getElem?_set_ne z]
            rw [e3]
            exact w3)
          have e2 : a :: (F1 ++ P1) ++ F2' ++ (P3 ++ F3) = a :: (F1 ++ (P1 ++ F2' ++ P3) ++ F3) := by simp [List.append_assoc]
          rw [e2]
          exact this
      · cases hg
    | _ => cases hg
  | .fld c f :: π, .fz, s', _, _, t, t', _, hs, _, _, _ => by cases hs
  | .fld c f :: π, .vw, s', _, _, t, t', _, hs, _, _, _ => by cases hs
  | .fld c f :: π, .xc _ _ _ _, s', _, _, t, t', _, hs, _, _, _ => by cases hs
  | .fld c f :: π, .all _, s', _, _, t, t', _, hs, _, _, _ => by cases hs
  | .fld c f :: π, .row _, s', _, _, t, t', _, hs, _, _, _ => by cases hs
  | .fld c f :: π, .opt _, s', _, _, t, t', _, hs, _, _, _ => by cases hs
  | .ix n :: π, .fz, s', _, _, t, t', _, hs, _, _, _ => by cases hs
  | .ix n :: π, .vw, s', _, _, t, t', _, hs, _, _, _ => by cases hs
  | .ix n :: π, .xc _ _ _ _, s', _, _, t, t', _, hs, _, _, _ => by cases hs
  | .ix n :: π, .flds _, s', _, _, t, t', _, hs, _, _, _ => by cases hs
  | .ix n :: π, .row _, s', _, _, t, t', _, hs, _, _, _ => by cases hs
  | .ix n :: π, .opt _, s', _, _, t, t', _, hs, _, _, _ => by cases hs
end
end NQ
namespace NQ
open PySem L2
/-! ### expressions that name a place -/
def tPl (K : PySem.W.Frag) (i : Nat) (π : List Pt) : TE := fun σ H Q => ∃ v v', σ[i]? = some (some v) ∧ pathV K H v π v' ∧ Q v' H
def eP (i : Nat) (π : List Pt) : Qf := fun δ => match dAt δ i with
  | some t => getP t π
  | none => none
section
variable {K : PySem.W.Frag} {H : Hp}
theorem pathV_app : ∀ {π ρ : List Pt} {v w : V}, pathV K H v (π ++ ρ) w → ∃ u, pathV K H v π u ∧ pathV K H u ρ w
  | [], ρ, v, w, h => ⟨v, rfl, h⟩
  | .fld c f :: π, ρ, v, w, ⟨a, dx, fs, u, h1, h2, h3, h4⟩ => by
    obtain ⟨x, k1, k2⟩ := pathV_app h4
    exact ⟨x, ⟨a, dx, fs, u, h1, h2, h3, k1⟩, k2⟩
  | .ix n :: π, ρ, v, w, ⟨a, vs, u, h1, h2, h3, h4⟩ => by
    obtain ⟨x, k1, k2⟩ := pathV_app h4
    exact ⟨x, ⟨a, vs, u, h1, h2, h3, k1⟩, k2⟩
theorem pathV_ed {H' : Hp} (e : EdP noA H H') : ∀ {π : List Pt} {v w : V}, pathV K H v π w → pathV K H' v π w
  | [], v, w, h => h
  | .fld c f :: π, v, w, ⟨a, dx, fs, u, h1, h2, h3, h4⟩ => ⟨a, dx, fs, u, h1, e.1 _ _ (fun z => z) h2, h3, pathV_ed e h4⟩
  | .ix n :: π, v, w, ⟨a, vs, u, h1, h2, h3, h4⟩ => ⟨a, vs, u, h1, e.1 _ _ (fun z => z) h2, h3, pathV_ed e h4⟩
theorem pathV_inj : ∀ {π : List Pt} {v w w' : V}, pathV K H v π w → pathV K H v π w' → w = w'
  | [], v, w, w', h, h' => h.symm.trans h'
  | .fld c f :: π, v, w, w', ⟨a, dx, fs, u, h1, h2, h3, h4⟩, ⟨a', dx', fs', u', k1, k2, k3, k4⟩ => by
    rw [h1] at k1
    cases k1
    rw [h2] at k2
    cases k2
    rw [h3] at k3
    cases k3
    exact pathV_inj h4 k4
  | .ix n :: π, v, w, w', ⟨a, vs, u, h1, h2, h3, h4⟩, ⟨a', vs', u', k1, k2, k3, k4⟩ => by
    rw [h1] at k1
    cases k1
    rw [h2] at k2
    cases k2
    rw [h3] at k3
    cases k3
    exact pathV_inj h4 k4
end
section
variable {X : Cx} {K : PySem.W.Frag} {sh : Nat → Sh} {e o k : Expr} {i : Nat} {π : List Pt} {pos : Pos}
theorem pl_var (h : PE X e (tVar i)) : PE X e (tPl K i []) := pe_imp h fun σ H Q ⟨v, v', h1, h2, h3⟩ => ⟨v, h1, by cases h2; exact h3⟩
theorem pl_fld {c f : Str} (h : PE X o (tPl K i π)) (hc : Cls K (He.ga K c)) (hn : NoAttr K (He.ga K c) f) (hb : attributeBase o f X.env (eval o X.env) = eval o X.env := by rfl) (hK : X.K = K := by rfl) : PE X (.Attribute o f pos) (tPl K i (π ++ [.fld c f])) :=
  pe_imp (NL.q_fld K h hb hK) fun σ H Q ⟨v, v', h1, h2, h3⟩ => by
    obtain ⟨u, k1, a, dx, fs, w, e1, e2, e3, e4⟩ := pathV_app h2
    cases e4
    exact ⟨v, u, h1, k1, a, _, dx, fs, _, e1, e2, hc, hn, e3, h3⟩
theorem pl_ix {n : Int} (h : PE X o (tPl K i π)) (hk : PE X k (tC (.int n))) (hs : PlainIx k := by exact fun _ _ => rfl) (hK : X.K = K := by rfl) : PE X (.Subscript o k pos) (tPl K i (π ++ [.ix n])) :=
  pe_imp (pe_ix (NL.ix_dyn K hK) h hk hs) fun σ H Q ⟨v, v', h1, h2, h3⟩ => by
    obtain ⟨u, k1, a, vs, w, e1, e2, e3, e4⟩ := pathV_app h2
    cases e4
    subst e1
    exact ⟨v, _, h1, k1, vs, _, .inl (SqL.of e2), e3, h3⟩
/-- a place is read -/
theorem Fr.place {W : Addr → Prop} {Y : List Addr} {Fm : Nat → List Addr} {H : Hp} {σ : L2.St} {δ : Dl} {t t' : T} {s' : Sh} (f : Fr K sh W Y Fm H σ δ) (e : dAt δ i = some t) (hs : shP (sh i) π = some s') (hn : (sh i).pln = true) (hg : getP t π = some t') :
    ∃ v v' F2, σ[i]? = some (some v) ∧ pathV K H v π v' ∧ Ow K (Gw Y Fm W) H s' F2 v' t' := by
  obtain ⟨v, h1, h2⟩ := f.rel i t e
  obtain ⟨F1, F2, F3, v', eF, k1, k2, k3⟩ := focus (h2.own hn) hs hg (f.nd i) fun a z => .inl (.inr ⟨i, z⟩)
  exact ⟨v, v', F2, h1, k2, k1⟩
theorem eP_sem {δ : Dl} {t' : T} (h : eP i π δ = some t') : ∃ t, dAt δ i = some t ∧ getP t π = some t' := by
  unfold eP at h
  split at h
  · rename_i t q; exact ⟨t, q, h⟩
  · cases h
theorem m_pf (h : PE X e (tPl K i π)) (hs : shP (sh i) π = some .fz := by rfl) (hn : (sh i).pln = true := by rfl) : PE X e (TQ K sh .fz (eP i π)) := pe_imp h fun σ H Q ⟨W, Y, Fm, δ, t', fr, e1, k⟩ => by
  obtain ⟨t, h1, h2⟩ := eP_sem e1
  obtain ⟨v, v', F2, q1, q2, q3⟩ := fr.place h1 hs hn h2
  exact ⟨v, v', q1, q2, k v' H .refl q3.df.1⟩
theorem m_pc {s' : Sh} (h : PE X e (tPl K i π)) (hs : shP (sh i) π = some s' := by rfl) (hf : s'.flat = true := by rfl) (hn : (sh i).pln = true := by rfl) : PE X e (TQ K sh .ch (eP i π)) := pe_imp h fun σ H Q ⟨W, Y, Fm, δ, t', fr, e1, k⟩ => by
  obtain ⟨t, h1, h2⟩ := eP_sem e1
  obtain ⟨v, v', F2, q1, q2, q3⟩ := fr.place h1 hs hn h2
  exact ⟨v, v', q1, q2, k v' H .refl (q3.vw hf)⟩
theorem m_pr {s' : Sh} (h : PE X e (tPl K i π)) (hs : shP (sh i) π = some s' := by rfl) (hn : (sh i).pln = true := by rfl) : PE X e (TQ K sh .rd (eP i π)) := pe_imp h fun σ H Q ⟨W, Y, Fm, δ, t', fr, e1, k⟩ => by
  obtain ⟨t, h1, h2⟩ := eP_sem e1
  obtain ⟨v, v', F2, q1, q2, q3⟩ := fr.place h1 hs hn h2
  exact ⟨v, v', q1, q2, k v' H .refl q3.rp⟩
/-- a place is written: what it holds is told anew -/
theorem Fr.put {W : Addr → Prop} {N Y : List Addr} {Fm : Nat → List Addr} {H : Hp} {σ : L2.St} {δ : Dl} {t t' : T} {s' : Sh} (f : Fr K sh W (N ++ Y) Fm H σ δ) (e : dAt δ i = some t) (hs : shP (sh i) π = some s') (hn : (sh i).pln = true) (hg : getP t π = some t') :
    ∃ v v' F2, σ[i]? = some (some v) ∧ pathV K H v π v' ∧ Ow K (Gw (N ++ Y) Fm W) H s' F2 v' t' ∧ F2.Nodup ∧ (∀ a ∈ F2, a ∈ Fm i) ∧
      ∀ (U : Addr → Prop) (H' : Hp) (F2' : List Addr) (w : T), EdP U H H' → (∀ a, U a → a ∈ F2) → F2'.Nodup → (∀ a ∈ F2', a ∈ F2 ∨ a ∈ N) → Ow K (Gw (N ++ Y) Fm W) H' s' F2' v' w →
        ∃ t2 Fm', setP t π w = some t2 ∧ Fr K sh W Y Fm' H' σ (δ.set i (some t2)) ∧ (∀ a, Om Fm' a → a ∈ N ∨ Om Fm a) := by
  obtain ⟨v, h1, h2⟩ := f.rel i t e
  obtain ⟨F1, F2, F3, v', eF, k1, k2, k3⟩ := focus (h2.own hn) hs hg (f.nd i) fun a z => .inl (.inr ⟨i, z⟩)
  have nd := f.nd i
  rw [eF] at nd
  have n12 := List.nodup_append.mp nd
  have n1 := List.nodup_append.mp n12.1
  have m2 : ∀ a ∈ F2, a ∈ Fm i := fun a z => by rw [eF]; exact List.mem_append_left _ (List.mem_append_right _ z)
  have m1 : ∀ a ∈ F1, a ∈ Fm i := fun a z => by rw [eF]; exact List.mem_append_left _ (List.mem_append_left _ z)
  have m3 : ∀ a ∈ F3, a ∈ Fm i := fun a z => by rw [eF]; exact List.mem_append_right _ z
  refine ⟨v, v', F2, h1, k2, k1, n1.2.1, m2, fun U H' F2' w ed hu nd2 hsub o => ?_⟩
  have nx := List.nodup_append.mp f.xn
  let Fm' : Nat → List Addr := fun j => if j = i then F1 ++ F2' ++ F3 else Fm j
  have hm : ∀ j a, a ∈ Fm' j → (j = i ∧ (a ∈ Fm i ∨ a ∈ N)) ∨ (j ≠ i ∧ a ∈ Fm j) := fun j a z => by
    by_cases y : j = i
    · simp only [Fm', if_pos y] at z
      refine .inl ⟨y, ?_⟩
      rcases List.mem_append.mp z with z | z
      · rcases List.mem_append.mp z with z | z
        · exact .inl (m1 a z)
        · exact (hsub a z).imp (m2 a) id
      · exact .inl (m3 a z)
    · simp only [Fm', if_neg y] at z
      exact .inr ⟨y, z⟩
  have hgm : ∀ a, Gm Y Fm' a → Gm (N ++ Y) Fm a := fun a z => by
    rcases z with z | ⟨j, z⟩
    · exact .inl (List.mem_append_right _ z)
    · rcases hm j a z with ⟨_, z | z⟩ | ⟨_, z⟩
      · exact .inr ⟨i, z⟩
      · exact .inl (List.mem_append_left _ z)
      · exact .inr ⟨j, z⟩
  have hgw : ∀ a, Gw Y Fm' W a → Gw (N ++ Y) Fm W a := fun a z => z.imp (hgm a) id
  obtain ⟨t2, w1, w2⟩ := k3 (Gw Y Fm' W) U H' F2' w ed (fun a z => .inl (hu a z)) (fun a z => .inl (hgw a z)) (o.weak hgw)
  have il := dAt_lt e
  refine ⟨t2, Fm', w1, ⟨fun j u ej => ?_, fun j ej => ?_, fun j => ?_, fun j l a n q q2 => ?_, fun j a q => ?_, fun a z => ed.2 a (f.wl a z), by simpa using f.len, nx.2.1, fun j a q q2 => ?_, fun a q => f.xw a (List.mem_append_right _ q), fun a q => ed.2 a (f.xl a (List.mem_append_right _ q))⟩, fun a ⟨j, z⟩ => ?_⟩
  · by_cases y : j = i
    · subst y
      have e2 := dAt_set_eq ej
      cases e2
      refine ⟨v, h1, .inr ?_⟩
      simp only [Fm', if_pos]
      exact w2
    · rw [dAt_set_ne y] at ej
      obtain ⟨x, q1, q2⟩ := f.rel j u ej
      refine ⟨x, q1, ?_⟩
      have e3 : Fm' j = Fm j := if_neg y
      rw [e3]
      exact q2.step ed (fun a z => .inl (.inr ⟨i, m2 a (hu a z)⟩)) (fun a z => .inl (hgw a z)) (fun a z => .inl (hgm a z)) fun a z z2 => f.dj j i a y z (m2 a (hu a z2))
  · by_cases y : j = i
    · subst y
      rw [dAt_set_self il] at ej
      cases ej
    · rw [dAt_set_ne y] at ej
      show (if j = i then _ else Fm j) = []
      rw [if_neg y]
      exact f.un j ej
  · by_cases y : j = i
    · show List.Nodup (if j = i then _ else Fm j)
      rw [if_pos y]
      refine List.nodup_append.mpr ⟨List.nodup_append.mpr ⟨n1.1, nd2, fun a z b z2 eq => ?_⟩, n12.2.1, fun a z b z2 eq => ?_⟩
      · subst eq
        rcases hsub a z2 with z2 | z2
        · exact n1.2.2 a z a z2 rfl
        · exact f.xd i a (List.mem_append_left _ z2) (m1 a z)
      · subst eq
        rcases List.mem_append.mp z with z | z
        · exact n12.2.2 a (List.mem_append_left _ z) a z2 rfl
        · rcases hsub a z with z | z
          · exact n12.2.2 a (List.mem_append_right _ z) a z2 rfl
          · exact f.xd i a (List.mem_append_left _ z) (m3 a z2)
    · show List.Nodup (if j = i then _ else Fm j)
      rw [if_neg y]
      exact f.nd j
  · rcases hm j a q with ⟨y1, y2 | y2⟩ | ⟨y1, y2⟩ <;> rcases hm l a q2 with ⟨x1, x2 | x2⟩ | ⟨x1, x2⟩
    · exact n (y1.trans x1.symm)
    · exact n (y1.trans x1.symm)
    · exact f.dj i l a (fun z => x1 z.symm) y2 x2
    · exact n (y1.trans x1.symm)
    · exact n (y1.trans x1.symm)
    · exact f.xd l a (List.mem_append_left _ y2) x2
    · exact f.dj j i a y1 y2 x2
    · exact f.xd j a (List.mem_append_left _ x2) y2
    · exact f.dj j l a n y2 x2
  · rcases hm j a q with ⟨y1, y2 | y2⟩ | ⟨y1, y2⟩
    · exact f.dw i a y2
    · exact f.xw a (List.mem_append_left _ y2)
    · exact f.dw j a y2
  · rcases hm j a q2 with ⟨y1, y2 | y2⟩ | ⟨y1, y2⟩
    · exact f.xd i a (List.mem_append_right _ q) y2
    · exact nx.2.2 a y2 a q rfl
    · exact f.xd j a (List.mem_append_right _ q) y2
  · rcases hm j a z with ⟨y1, y2 | y2⟩ | ⟨y1, y2⟩
    · exact .inr ⟨i, y2⟩
    · exact .inl y2
    · exact .inr ⟨j, y2⟩
end
/-! ### append -/
theorem OwL.snoc {K : PySem.W.Frag} {G : Addr → Prop} {H : Hp} {s : Sh} {N : List Addr} {y : V} {u : T} (o : Ow K G H s N y u) : ∀ {ss : List Sh} {F : List Addr} {vs : List V} {ts : List T}, OwL K G H ss F vs ts → OwL K G H (ss ++ [s]) (F ++ N) (vs ++ [y]) (ts ++ [u])
  | _, _, _, _, .nil => by
    have := OwL.cons o OwL.nil
    simpa using this
  | _, _, _, _, .cons (F := F) (F' := F') h r => by
    have := OwL.cons h (OwL.snoc o r)
    rw [List.append_assoc]
    exact this
/-- the root of a list of one's own -/
theorem Ow.list {K : PySem.W.Frag} {G : Addr → Prop} {H : Hp} {s : Sh} {F : List Addr} {v : V} {ts : List T} (h : Ow K G H (.all s) F v (.lst ts)) : ∃ a F' vs, v = .ref a ∧ F = a :: F' ∧ H a = some (.lst vs) ∧ OwL K G H (ts.map fun _ => s) F' vs ts := by
  cases h with
  | nd c k r => cases k; exact ⟨_, _, _, rfl, rfl, c, r⟩
/-- what comes of an append at a place -/
theorem app_core {K : PySem.W.Frag} {sh : Nat → Sh} {i : Nat} {π : List Pt} {W : Addr → Prop} {N Y : List Addr} {Fm : Nat → List Addr} {H : Hp} {σ : L2.St} {δ : Dl} {t u : T} {ts : List T} {s : Sh} {y : V} {Q : VK} (f : Fr K sh W (N ++ Y) Fm H σ δ) (e : dAt δ i = some t) (hs : shP (sh i) π = some (.all s)) (hn : (sh i).pln = true)
    (hg : getP t π = some (.lst ts)) (o : Ow K (Gw (N ++ Y) Fm W) H s N y u) (hl : ts.length < sizeLine) :
    ∃ v v', σ[i]? = some (some v) ∧ pathV K H v π v' ∧ tyV K "list" v' H ∧ ((∀ H' t2 Fm', setP t π (.lst (ts ++ [u])) = some t2 → Fr K sh W Y Fm' H' σ (δ.set i (some t2)) → EdP (Om Fm) H H' → (∀ a, Om Fm' a → a ∈ N ∨ Om Fm a) → Q .non H') → rAppend v' [y] H Q) := by
  obtain ⟨v, v', F2, h1, h2, h3, n2, m2, put⟩ := f.put e hs hn hg
  obtain ⟨a, F', vs, rfl, rfl, ha, r⟩ := h3.list
  refine ⟨v, .ref a, h1, h2, .inl ⟨rfl, vs, SqL.of ha⟩, fun k => ⟨a, vs, y, rfl, rfl, ha, by rw [r.rp.length]; exact hl, ?_⟩⟩
  have nn := List.nodup_cons.mp n2
  have ed : EdP (fun b => b = a) H (upd H a (.lst (vs ++ [y]))) := EdP.put
  have hG : ∀ b, (b = a) → Gw (N ++ Y) Fm W b ∨ H b = none := fun b z => .inl (.inl (.inr ⟨i, m2 b (by rw [z]; exact List.mem_cons_self ..)⟩))
  have aN : a ∉ N := fun z => f.xd i a (List.mem_append_left _ z) (m2 a (List.mem_cons_self ..))
  have ow : Ow K (Gw (N ++ Y) Fm W) (upd H a (.lst (vs ++ [y]))) (.all s) (a :: (F' ++ N)) (.ref a) (.lst (ts ++ [u])) := by
    refine Ow.nd (vs := vs ++ [y]) (ss := (ts ++ [u]).map fun _ => s) upd_same rfl ?_
    rw [List.map_append]
    refine OwL.snoc (o.step ed hG (fun b z => .inl z) fun b z w => aN (by rw [← w]; exact z)) (r.step ed hG (fun b z => .inl z) fun b z w => nn.1 (by rw [← w]; exact z))
  have nx := List.nodup_append.mp f.xn
  obtain ⟨t2, Fm', w1, w2, w3⟩ := put (fun b => b = a) _ (a :: (F' ++ N)) (.lst (ts ++ [u])) ed (fun b z => by rw [z]; exact List.mem_cons_self ..) (by
      refine List.nodup_cons.mpr ⟨fun z => (List.mem_append.mp z).elim nn.1 aN, List.nodup_append.mpr ⟨nn.2, nx.1, fun b z c z2 eq => ?_⟩⟩
      subst eq
      exact f.xd i b (List.mem_append_left _ z2) (m2 b (List.mem_cons_of_mem _ z)))
    (fun b z => (List.mem_cons.mp z).elim (fun y => .inl (by rw [y]; exact List.mem_cons_self ..)) fun z => (List.mem_append.mp z).imp (fun y => List.mem_cons_of_mem _ y) id) ow
  exact k _ t2 Fm' w1 w2 (ed.weak fun b z => ⟨i, m2 b (by rw [z]; exact List.mem_cons_self ..)⟩) w3
end NQ
namespace NQ
open PySem L2
/-! ### x.append(e), x a list of one's own -/
def fApp (i : Nat) (f : Dl → Rs) : Dl → Rs := fun δ => match dAt δ i with
  | some (.lst _) => match f δ with
    | none => none
    | some (.error e, δ') => some (.error e, δ')
    | some (.ok u, δ') => match dAt δ' i with
      | some (.lst ts) => if ts.length < sizeLine then some (.ok .non, δ'.set i (some (.lst (ts ++ [u])))) else none
      | _ => none
  | _ => none
section
variable {X : Cx} {K : PySem.W.Frag} {sh : Nat → Sh} {Wx : WX} {o e : Expr} {i : Nat} {f : Dl → Rs} {apos cpos : Pos}
theorem m_app (ho : PE X o (tVar i)) (he : PE X e (TF K sh Wx f)) (hs : sh i = .all .fz := by rfl)
    (hbase : attributeBase o "append" X.env (eval o X.env) = eval o X.env := by rfl)
    (hfew : ((backTo cpos (starEach [e] X.env)).all (fun x => !x.1) && (backToKw cpos (keywordEach [] X.env)).all (fun x => x.1.isSome)
      && decide ([e].length + ([] : List Keyword).length + (if ([] : List Keyword).isEmpty then 0 else 1) < 30)) = true := by rfl)
    (hline : (apos.endLine == cpos.line) = true := by rfl) (hst : starEach [e] X.env = (false, eval e X.env) :: starEach [] X.env := by rfl) (hplain : (backTo cpos (starEach [] X.env)).any (·.1) = false := by rfl) (hK : X.K = K := by rfl) :
    PE X (.Call (.Attribute o "append" apos) [e] [] cpos) (TF K sh Wx (fApp i f)) :=
  pe_imp (NL.q_bm K PySem.F.plainAttrs_list PySem.F.slot_list_append PySem.F.type_list_append NL.m_append ho (pa_cons he pa_nil hst) hbase hfew hline hst hplain hK) fun σ H Q ⟨W, Y, Fm, δ, fr, k⟩ => by
    unfold fApp at k
    cases q0 : dAt δ i with
    | none => simp only [q0] at k; exact k.elim
    | some t0 =>
      cases t0 with
      | lst ts0 =>
        simp only [q0] at k
        obtain ⟨v, h1, h2⟩ := fr.rel i _ q0
        rw [hs] at h2
        obtain ⟨a, F', vs, rfl, _, ha, _⟩ := (h2.own rfl).list
        refine ⟨_, h1, .inl ⟨rfl, vs, SqL.of ha⟩, W, Y, Fm, δ, fr, ?_⟩
        cases q : f δ with
        | none => simp only [q] at k; exact k
        | some p =>
          obtain ⟨p, δ'⟩ := p
          cases p with
          | error er => simp only [q] at k; exact k
          | ok u =>
            simp only [q] at k
            intro y H' Fm' f' x' dy
            cases q1 : dAt δ' i with
            | none => simp only [q1] at k; exact k.elim
            | some t1 =>
              cases t1 with
              | lst ts =>
                simp only [q1] at k
                split at k
                · rename_i hl
                  obtain ⟨v, v', p1, p2, p3, p4⟩ := app_core (N := []) (π := []) (s := .fz) (u := u) (y := y) (Q := Q) f' q1 (by rw [hs]; rfl) (by rw [hs]; rfl) rfl (.fz dy) hl
                  rw [h1] at p1
                  cases p1
                  cases p2
                  refine p4 fun H2 t2 Fm2 e1 f2 e2 e3 => ?_
                  cases e1
                  exact k _ H2 Fm2 f2 ⟨x'.1.tr e2 (fun a z => x'.2 a z), fun a z => (e3 a z).elim (fun w => absurd w List.not_mem_nil) fun w => x'.2 a w⟩ (.sc rfl)
                · exact k.elim
              | _ => simp only [q1] at k; exact k.elim
      | _ => simp only [q0] at k; exact k.elim
/-! ### x[k] = e -/
/-- a list of one's own is written at the place k -/
theorem set_core {π : List Pt} {W : Addr → Prop} {Y : List Addr} {Fm : Nat → List Addr} {H : Hp} {σ : L2.St} {δ : Dl} {t u : T} {ts ts' : List T} {y : V} {n : Int} {QH : Hp → Prop} (f : Fr K sh W Y Fm H σ δ) (e : dAt δ i = some t) (hs : shP (sh i) π = some (.all .fz)) (hn : (sh i).pln = true)
    (hg : getP t π = some (.lst ts)) (dy : Df K (Gw Y Fm W) H y u) (hl : setAt ts n u = some ts') :
    ∃ v v', σ[i]? = some (some v) ∧ pathV K H v π v' ∧ ((∀ H' t2 Fm', setP t π (.lst ts') = some t2 → Fr K sh W Y Fm' H' σ (δ.set i (some t2)) → EdP (Om Fm) H H' → (∀ a, Om Fm' a → Om Fm a) → QH H') → rSetL v' (.int n) y H QH) := by
  obtain ⟨v, v', F2, h1, h2, h3, n2, m2, put⟩ := Fr.put (N := []) f e hs hn hg
  obtain ⟨a, F', vs, rfl, rfl, ha, r⟩ := h3.list
  obtain ⟨dl, rfl⟩ := OwL.df (ts := ts) r
  have hlen : vs.length = ts.length := dl.length
  unfold setAt at hl
  cases z : ixN ts.length n with
  | none => rw [z] at hl; cases hl
  | some j =>
    rw [z] at hl
    cases hl
    refine ⟨v, .ref a, h1, h2, fun k => ⟨a, vs, n, j, rfl, rfl, ha, by rw [hlen]; exact z, ?_⟩⟩
    have ed : EdP (fun b => b = a) H (upd H a (.lst (vs.set j y))) := EdP.put
    have am : a ∈ Fm i := m2 a (List.mem_cons_self ..)
    have hG : ∀ b, (b = a) → Gw ([] ++ Y) Fm W b ∨ H b = none := fun b w => .inl (.inl (.inr ⟨i, by rw [w]; exact am⟩))
    have ow : Ow K (Gw ([] ++ Y) Fm W) (upd H a (.lst (vs.set j y))) (.all .fz) [a] (.ref a) (.lst (ts.set j u)) := by
      refine Ow.nd (vs := vs.set j y) upd_same rfl (DfL.ow ?_)
      exact (dl.set (n := j) dy).step ed hG fun b w => .inl w
    obtain ⟨t2, Fm', w1, w2, w3⟩ := put (fun b => b = a) _ [a] (.lst (ts.set j u)) ed (fun b w => by rw [w]; exact List.mem_cons_self ..) (by simp) (fun b w => .inl w) ow
    exact k _ t2 Fm' w1 w2 (ed.weak fun b w => ⟨i, by rw [w]; exact am⟩) fun b w => (w3 b w).elim (fun q => absurd q List.not_mem_nil) id
end
def sSetIx (i : Nat) (fk : Qf) (f : Dl → Rs) : Sf := fun δ => match f δ with
  | none => none
  | some (.error e, δ') => some (.exc e, δ')
  | some (.ok u, δ') => match fk δ' with
    | some (.int n) => match dAt δ' i with
      | some (.lst ts) => match setAt ts n u with
        | some ts' => some (.nx, δ'.set i (some (.lst ts')))
        | none => none
      | _ => none
    | _ => none
section
variable {X : Cx} {K : PySem.W.Frag} {c : Cf} {Wx : WX} {o e k : Expr} {i : Nat} {f : Dl → Rs} {fk : Qf} {pos pos' : Pos}
theorem ms_setIx {m : Md} (ho : PE X o (tVar i)) (hk : PE X k (TQ K c.sh m fk)) (he : PE X e (TF K c.sh Wx f)) (hs : c.sh i = .all .fz := by rfl)
    (hs1 : swapsWithSole [.Subscript o k pos'] e pos.line X.env = pure false := by rfl) (hw : swappedStores [.Subscript o k pos'] e X.env = pure none := by rfl)
    (h1 : (assignEach [.Subscript o k pos'] X.env).map (·.2) = [assign (.Subscript o k pos') X.env] := by rfl) (hg : PG X (.Subscript o k pos') (gSub (tVar i) (TQ K c.sh m fk) rSetL)) :
    PS X (.Assign [.Subscript o k pos'] e pos) (SF K c Wx (sSetIx i fk f)) := ps_imp (ps_asg he hg hs1 hw h1) fun D σ H ⟨W, Y, Fm, δ, fr, k⟩ => by
  refine ⟨W, Y, Fm, δ, fr, ?_⟩
  unfold sSetIx at k
  cases q : f δ with
  | none => simp only [q] at k; exact k
  | some p =>
    obtain ⟨p, δ'⟩ := p
    cases p with
    | error er => simp only [q] at k; exact Kes.ke k
    | ok u =>
      simp only [q] at k
      intro y H1 Fm1 f1 x1 dy
      cases qk : fk δ' with
      | none => simp only [qk] at k; exact k.elim
      | some tk =>
        cases tk with
        | int n =>
          simp only [qk] at k
          cases q1 : dAt δ' i with
          | none => simp only [q1] at k; exact k.elim
          | some t1 =>
            cases t1 with
            | lst ts =>
              simp only [q1] at k
              cases q2 : setAt ts n u with
              | none => simp only [q2] at k; exact k.elim
              | some ts' =>
                simp only [q2] at k
                obtain ⟨v, r1, r2⟩ := f1.rel i _ q1
                refine ⟨v, r1, W, Y, Fm1, δ', .int n, f1, qk, fun z H2 ed rz => ?_⟩
                cases rz.rp.int
                have f2 := f1.ed0 ed
                obtain ⟨v2, v', p1, p2, p3⟩ := set_core (π := []) (QH := fun H3 => D.nx σ H3) f2 q1 (by rw [hs]; rfl) (by rw [hs]; rfl) rfl (dy.ed0 ed) q2
                rw [r1] at p1
                cases p1
                cases p2
                refine p3 fun H3 t2 Fm2 e1 f3 e2 e3 => ?_
                cases e1
                exact k σ H3 Fm2 .refl f3 ((x1.ed0 ed).tr ⟨e2, fun a z => .inl (e3 a z)⟩)
            | _ => simp only [q1] at k; exact k.elim
        | _ => simp only [qk] at k; exact k.elim
/-! ### x += e, x a number -/
def sAug (i : Nat) (op : Op) (f : Dl → Rs) : Sf := fun δ => match dAt δ i with
  | some a => match f δ with
    | none => none
    | some (.error e, δ') => some (.exc e, δ')
    | some (.ok b, δ') => match op [a, b] with
      | some c => some (.nx, δ'.set i (some c))
      | none => none
  | none => none
theorem ms_aug {x : Str} {oper : Operator} {g : Int → Int → Int} {op : Op} (i : Nat) (hN : X.N.Nodup) (he : PE X e (TF K c.sh Wx f)) (ho : PIp X oper (ipI g)) (hop : ∀ a b t, op [a, b] = some t → ∃ m n, a = .int m ∧ b = .int n ∧ t = .int (g m n)) (hs : c.sh i = .fz := by rfl) (hp : c.pr i = false := by rfl)
    (hi : X.N[i]? = some x := by rfl) (hx : Loc X.env.scope x := by first | exact Or.inl rfl | exact Or.inr rfl) (hf : X.fn x = true ∨ X.env.scope.names.lookup x = some .local := by first | exact .inl rfl | exact .inr rfl) :
    PS X (.AugAssign (.Name x pos') oper e pos) (SF K c Wx (sAug i op f)) := ps_imp (ps_aug hN hi hx he ho hf) fun D σ H ⟨W, Y, Fm, δ, fr, k⟩ => by
  unfold sAug at k
  cases q0 : dAt δ i with
  | none => simp only [q0] at k; exact k.elim
  | some a =>
    simp only [q0] at k
    obtain ⟨v, h1, h2⟩ := fr.var hs q0
    refine ⟨v, h1, W, Y, Fm, δ, fr, ?_⟩
    cases q : f δ with
    | none => simp only [q] at k; exact k
    | some p =>
      obtain ⟨p, δ'⟩ := p
      cases p with
      | error er => simp only [q] at k; exact Kes.ke k
      | ok b =>
        simp only [q] at k
        intro y H1 Fm1 f1 x1 dy
        cases q1 : op [a, b] with
        | none => simp only [q1] at k; exact k.elim
        | some t =>
          simp only [q1] at k
          obtain ⟨m, n, rfl, rfl, rfl⟩ := hop a b t q1
          cases h2.rp.int
          cases dy.rp.int
          exact ⟨m, n, rfl, rfl, k _ H1 Fm1 (Kp.set hp) (f1.set (f1.fz0 hs) (by rw [hs]; exact .inr (.fz (.sc rfl)))) x1⟩
theorem aug_add : ∀ a b t, addR [a, b] = some t → (∃ m n, a = .int m ∧ b = .int n ∧ t = .int (m + n)) ∨ ∃ x y, a = .str x ∧ b = .str y := fun a b t e => by
  unfold addR at e
  split at e
  · rename_i q; cases q; cases e; exact .inl ⟨_, _, rfl, rfl, rfl⟩
  · rename_i q; cases q; exact .inr ⟨_, _, rfl, rfl⟩
  · cases e
def addI : Op
  | [.int i, .int j] => some (.int (i + j))
  | _ => none
def subI : Op
  | [.int i, .int j] => some (.int (i - j))
  | _ => none
theorem aug_addI : ∀ a b t, addI [a, b] = some t → ∃ m n, a = .int m ∧ b = .int n ∧ t = .int (m + n) := fun a b t e => by
  unfold addI at e
  split at e
  · rename_i q; cases q; cases e; exact ⟨_, _, rfl, rfl, rfl⟩
  · cases e
theorem aug_subI : ∀ a b t, subI [a, b] = some t → ∃ m n, a = .int m ∧ b = .int n ∧ t = .int (m - n) := fun a b t e => by
  unfold subI at e
  split at e
  · rename_i q; cases q; cases e; exact ⟨_, _, rfl, rfl, rfl⟩
  · cases e
end
/-! ### the rules by name -/
section
variable {X : Cx} {K : PySem.W.Frag} {a b : Expr} {pos p : Pos}
theorem co_sub : CoR X K (.BinOp a .Sub b pos) [a, b] subT := .one (con_bin NL.op_dSub) rd_sub
theorem co_mod : CoR X K (.BinOp a .Mod b pos) [a, b] modT := .one (con_bin NL.op_dMod) rd_mod
theorem co_div : CoR X K (.BinOp a .FloorDiv b pos) [a, b] divT := .one (con_bin NL.op_dDiv) rd_div
theorem co_pow : CoR X K (.BinOp a .Pow b pos) [a, b] powT := .one (con_bin NL.op_dPow) rd_pow
theorem co_addR : CoR X K (.BinOp a .Add b pos) [a, b] addR := .one (con_bin NL.op_dAdd) rd_add
theorem co_mulR : CoR X K (.BinOp a .Mult b pos) [a, b] mulR := .one (con_bin NL.op_dMul) rd_mul
theorem co_neg : CoR X K (.UnaryOp .USub a pos) [a] negT := .one (con_un un_neg) rd_neg
abbrev ltT := cmpT fun i j => decide (i < j)
abbrev leT := cmpT fun i j => decide (i ≤ j)
abbrev gtT := cmpT fun i j => decide (j < i)
abbrev geT := cmpT fun i j => decide (j ≤ i)
theorem co_lt : CoR X K (.Compare a [.Lt] [b] pos) [a, b] ltT := .one (con_cmp NL.op_dLt (nomark _)) rd_cmp
theorem co_le : CoR X K (.Compare a [.LtE] [b] pos) [a, b] leT := .one (con_cmp NL.op_dLe (nomark _)) rd_cmp
theorem co_gt : CoR X K (.Compare a [.Gt] [b] pos) [a, b] gtT := .one (con_cmp NL.op_dGt (nomark _)) rd_cmp
theorem co_ge : CoR X K (.Compare a [.GtE] [b] pos) [a, b] geT := .one (con_cmp NL.op_dGe (nomark _)) rd_cmp
theorem ct_lt : CoRT X K (.Compare a [.Lt] [b] pos) [a, b] ltT := .one (cont_cmp NL.op_dLt (nomark _)) rd_cmp cmp_bl
theorem ct_le : CoRT X K (.Compare a [.LtE] [b] pos) [a, b] leT := .one (cont_cmp NL.op_dLe (nomark _)) rd_cmp cmp_bl
theorem ct_gt : CoRT X K (.Compare a [.Gt] [b] pos) [a, b] gtT := .one (cont_cmp NL.op_dGt (nomark _)) rd_cmp cmp_bl
theorem ct_ge : CoRT X K (.Compare a [.GtE] [b] pos) [a, b] geT := .one (cont_cmp NL.op_dGe (nomark _)) rd_cmp cmp_bl
theorem co_eq (hu : X.A.units + 64 < cLine) (h : X.K = K := by rfl) : CoR X K (.Compare a [.Eq] [b] pos) [a, b] eqT := .one (con_cmp (NL.op_dEq K hu h) (nomark _)) rd_eq
theorem co_ne (hu : X.A.units + 64 < cLine) (h : X.K = K := by rfl) : CoR X K (.Compare a [.NotEq] [b] pos) [a, b] neT := .one (con_cmp (NL.op_dNe K hu h) (nomark _)) rd_ne
theorem ct_eq (hu : X.A.units + 64 < cLine) (h : X.K = K := by rfl) : CoRT X K (.Compare a [.Eq] [b] pos) [a, b] eqT := .one (cont_cmp (NL.op_dEq K hu h) (nomark _)) rd_eq eq_bl
theorem ct_ne (hu : X.A.units + 64 < cLine) (h : X.K = K := by rfl) : CoRT X K (.Compare a [.NotEq] [b] pos) [a, b] neT := .one (cont_cmp (NL.op_dNe K hu h) (nomark _)) rd_ne ne_bl
theorem co_is : CoR X K (.Compare a [.Is] [b] pos) [a, b] isNT := .one (con_cmp NL.op_dIs (nomark _)) rd_isN
theorem co_isn : CoR X K (.Compare a [.IsNot] [b] pos) [a, b] notNT := .one (con_cmp NL.op_dIsNot (nomark _)) rd_notN
theorem ct_is : CoRT X K (.Compare a [.Is] [b] pos) [a, b] isNT := .one (cont_cmp NL.op_dIs (nomark _)) rd_isN isN_bl
theorem ct_isn : CoRT X K (.Compare a [.IsNot] [b] pos) [a, b] notNT := .one (cont_cmp NL.op_dIsNot (nomark _)) rd_notN notN_bl
theorem con_din (hu : X.A.units + 1 < cLine) (hm : behindInMarks .In b = false) : Con X (.Compare a [.In] [b] pos) [a, b] (r2 rDIn) := fun ts h => by
  cases h with
  | cons h1 h2 s1 =>
    cases h2 with
    | cons h2 h3 s2 =>
      cases h3
      exact pe_cmp (pc_din hu h1 h2) hm
theorem cont_din (hu : X.A.units + 1 < cLine) (hm : behindInMarks .In b = false) : ConT X (.Compare a [.In] [b] pos) [a, b] (r2 rDIn) := fun ts h => by
  cases h with
  | cons h1 h2 s1 =>
    cases h2 with
    | cons h2 h3 s2 =>
      cases h3
      exact pt_cmp (pc_din hu h1 h2) hm
theorem con_dnin (hu : X.A.units + 1 < cLine) (hm : behindInMarks .NotIn b = false) : Con X (.Compare a [.NotIn] [b] pos) [a, b] (r2 rDNin) := fun ts h => by
  cases h with
  | cons h1 h2 s1 =>
    cases h2 with
    | cons h2 h3 s2 =>
      cases h3
      exact pe_cmp (pc_dnotin hu h1 h2) hm
theorem cont_dnin (hu : X.A.units + 1 < cLine) (hm : behindInMarks .NotIn b = false) : ConT X (.Compare a [.NotIn] [b] pos) [a, b] (r2 rDNin) := fun ts h => by
  cases h with
  | cons h1 h2 s1 =>
    cases h2 with
    | cons h2 h3 s2 =>
      cases h3
      exact pt_cmp (pc_dnotin hu h1 h2) hm
abbrev inA : Op := altT inT dinT
abbrev ninA : Op := altT ninT dninT
theorem co_in (hu : X.A.units + 64 < cLine) (hm : behindInMarks .In b = false := by rfl) (h : X.K = K := by rfl) : CoR X K (.Compare a [.In] [b] pos) [a, b] inA := .alt (.one (con_cmp (NL.op_dIn K h) hm) rd_in) (.one (con_din (NL.units1 hu) hm) rd_din)
theorem co_nin (hu : X.A.units + 64 < cLine) (hm : behindInMarks .NotIn b = false := by rfl) (h : X.K = K := by rfl) : CoR X K (.Compare a [.NotIn] [b] pos) [a, b] ninA := .alt (.one (con_cmp (NL.op_dNotIn K h) hm) rd_nin) (.one (con_dnin (NL.units1 hu) hm) rd_dnin)
theorem ct_in (hu : X.A.units + 64 < cLine) (hm : behindInMarks .In b = false := by rfl) (h : X.K = K := by rfl) : CoRT X K (.Compare a [.In] [b] pos) [a, b] inA := .alt (.one (cont_cmp (NL.op_dIn K h) hm) rd_in in_bl) (.one (cont_din (NL.units1 hu) hm) rd_din din_bl)
theorem ct_nin (hu : X.A.units + 64 < cLine) (hm : behindInMarks .NotIn b = false := by rfl) (h : X.K = K := by rfl) : CoRT X K (.Compare a [.NotIn] [b] pos) [a, b] ninA := .alt (.one (cont_cmp (NL.op_dNotIn K h) hm) rd_nin nin_bl) (.one (cont_dnin (NL.units1 hu) hm) rd_dnin dnin_bl)
abbrev ixRA : Op := altT ixR dgetR
abbrev ixA : Op := altT ixRA (altT ixD dgetD)
theorem co_ixR (hu : X.A.units + 64 < cLine) (hs : PlainIx b := by exact fun _ _ => rfl) (hs2 : NoSl b := by exact fun _ _ => rfl) (h : X.K = K := by rfl) : CoR X K (.Subscript a b pos) [a, b] ixRA := .alt (.one (con_ix (NL.ix_dyn K h) hs) rd_ix) (.one (con_dget (NL.units1 hu) hs2) rd_dget)
theorem co_ix (hu : X.A.units + 64 < cLine) (hs : PlainIx b := by exact fun _ _ => rfl) (hs2 : NoSl b := by exact fun _ _ => rfl) (h : X.K = K := by rfl) : Co X K (.Subscript a b pos) [a, b] ixA := .alt (co_ixR hu hs hs2 h).co (.alt (.one (con_ix (NL.ix_dyn K h) hs) op_ix) (.one (con_dget (NL.units1 hu) hs2) op_dget))
end
end NQ
namespace NQ
open PySem L2
/-! ### lists joined, lists repeated, also those that are frozen -/
def rCatR : R2 := fun x y H Q => ∃ a b xs ys, x = .ref a ∧ y = .ref b ∧ Rd H a (.lst xs) ∧ Rd H b (.lst ys) ∧ xs.length + ys.length ≤ sizeLine ∧ ∀ p, H p = none → Q (.ref p) (upd H p (.lst (xs ++ ys)))
theorem op_catR {X : Cx} : OpR X (binaryOp .Add) rCatR := by
  intro pins s σ H x y v u Q I rx ry h
  obtain ⟨a, b, xs, ys, rfl, rfl, ha, hb, hz, q⟩ := h
  cases rx
  cases ry
  obtain ⟨_, ia, na, ra, ea⟩ := ha.ok I.hok
  obtain ⟨_, ib, nb, rb, eb⟩ := hb.ok I.hok
  have la := ra.length
  have lb := rb.length
  refine PySem.P.add_list ea eb ?_ (by rw [List.size_toArray, List.size_toArray]; omega)
  have e0 : ia.toArray ++ ib.toArray = (ia ++ ib).toArray := by simp
  rw [e0]
  exact ⟨.ref _, _, I.lnew (t' := s.toks) (ra.append rb) (by rw [List.length_append]; exact hz), rfl, q _ I.fresh⟩
def rRepR : R2 := fun x y H Q => ∃ a k xs, x = .ref a ∧ y = .int k ∧ Rd H a (.lst xs) ∧ -(2 ^ 63) ≤ k ∧ k < 2 ^ 63 ∧ xs.length * k.toNat ≤ sizeLine ∧ ∀ p, H p = none → Q (.ref p) (upd H p (.lst (List.replicate k.toNat xs).flatten))
theorem rep_arr (xs : List Value) (k : Nat) : List.foldl (fun x y => x ++ y) #[] (List.replicate (if xs.toArray.isEmpty = true then 0 else k) xs.toArray) = (List.replicate k xs).flatten.toArray := by
  have g : ∀ m : Nat, List.foldl (fun x y => x ++ y) #[] (List.replicate m xs.toArray) = (List.replicate m xs).flatten.toArray := fun m => by
    have := foldl_rep xs m []
    rwa [List.nil_append] at this
  rw [g]
  cases xs with
  | nil => simp
  | cons a r => rw [if_neg (by simp)]
theorem op_repR {X : Cx} : OpR X (binaryOp .Mult) rRepR := by
  intro pins s σ H x y v u Q I rx ry h
  obtain ⟨a, k, xs, rfl, rfl, ha, h1, h2, hz, q⟩ := h
  cases rx
  obtain ⟨t, rfl⟩ := ry
  obtain ⟨_, ia, na, ra, ea⟩ := ha.ok I.hok
  have la := ra.length
  have z1 : ia.toArray.size * k.toNat ≤ sizeLine := by rw [List.size_toArray, ← la]; exact hz
  have z0 : (sizeLine : Nat) ≤ (2 ^ 63 - 1) / 8 := by decide
  have c1 : ¬ (!Builtin.List.listFitsIndex k) = true := by rw [fitsIndex_both h1 h2]; exact Bool.false_ne_true
  have c2 : ¬ Builtin.List.listTooLong (ia.toArray.size * k.toNat) = true := by rw [notLongL z1]; exact Bool.false_ne_true
  refine wpAny_binaryOp_repeat_ref (T := "list") (U := "int") (by decide) ⟨_, ea, rfl⟩ (fun s' => typeIs_int s' k t) noFill_list_mul F.fills_int_mul F.slot_int_rmul repeat_list F.slot_int_index.lookup
    (call_meets F.slot_int_rmul (typeIs_int s k t) F.entry_int_rmul (F.args_int_rmul_2 _ _) (int___rmul___int_list k t a ia.toArray na)
      ⟨ea, rfl, ⟨_, ea, rfl⟩, call_meets F.slot_list_mul ⟨_, ea, rfl⟩ F.entry_list_mul (F.args_list_mul_2 _ _) (AutoListH.list___mul___list_int_3 a ia.toArray na k t c1 (by omega) c2) ⟨ea, ?_⟩⟩)
  rw [rep_arr]
  exact ⟨.ref _, _, I.lnew (t' := s.toks) (ra.rep k.toNat) (by rw [PyProof.Rows.lm_len_rep_flat, Nat.mul_comm]; exact hz), rfl, q _ I.fresh⟩
section
variable {K : PySem.W.Frag}
theorem nw_catR : DNew K (r2 rCatR) addL := fun G H xs ts c Q r e al k => by
  unfold addL at e
  split at e
  · split at e
    · rename_i z
      cases e
      obtain ⟨x, y, rfl, h1, h2⟩ := r.two
      obtain ⟨p, vs, rfl, k1, k2⟩ := h1.lst
      obtain ⟨q, us, rfl, k3, k4⟩ := h2.lst
      exact ⟨p, q, vs, us, rfl, rfl, k1, k3, by rw [k2.length, k4.length]; exact z, newL al (k2.app k4) k⟩
    · cases e
  · cases e
theorem nw_repR : DNew K (r2 rRepR) mulL := fun G H xs ts c Q r e al k => by
  unfold mulL at e
  split at e
  · split at e
    · rename_i z
      cases e
      obtain ⟨x, y, rfl, h1, h2⟩ := r.two
      obtain ⟨p, vs, rfl, k1, k2⟩ := h1.lst
      have h3 := h2.rp.int
      subst h3
      exact ⟨p, _, vs, rfl, rfl, k1, z.1, z.2.1, by rw [k2.length]; exact z.2.2, newL al (rep_df k2 _) k⟩
    · cases e
  · cases e
end
section
variable {X : Cx} {K : PySem.W.Frag} {a b c : Expr} {es : List Expr} {pos p : Pos}
abbrev addA : Op := altT addR addL
abbrev mulA : Op := altT mulR mulL
theorem co_add : Co X K (.BinOp a .Add b pos) [a, b] addA := .alt co_addR.co (.one (con_bin op_catR) nw_catR.op)
theorem co_mul : Co X K (.BinOp a .Mult b pos) [a, b] mulA := .alt co_mulR.co (.one (con_bin op_repR) nw_repR.op)
theorem cn_add : CoN X K (.BinOp a .Add b pos) [a, b] addL := .one (con_bin op_catR) nw_catR addL_kids
theorem cn_mul : CoN X K (.BinOp a .Mult b pos) [a, b] mulL := .one (con_bin op_repR) nw_repR mulL_kids
/-! ### calls of what is built in -/
abbrev Pl1 (X : Cx) (pos : Pos) (es : List Expr) : Prop := (backTo pos (starEach es X.env)).any (·.1) = false
theorem co_len (hm : X.mg "len" = none) (hg : Gl X "len" := by rfl) (hpl : Pl1 X pos [] := by rfl) (h : X.K = K := by rfl) : CoR X K (.Call (.Name "len" p) [a] [] pos) [a] lenT := .one (con_callB (NL.cl_len K h) hm NL.bt_len hg (by decide) (by decide) hpl) rd_len
theorem co_abs (hm : X.mg "abs" = none) (hg : Gl X "abs" := by rfl) (hpl : Pl1 X pos [] := by rfl) : CoR X K (.Call (.Name "abs" p) [a] [] pos) [a] absT := .one (con_callB NL.cl_abs hm NL.bt_abs hg (by decide) (by decide) hpl) rd_abs
theorem co_max (hm : X.mg "max" = none) (hc : X.calm = true := by rfl) (hg : Gl X "max" := by rfl) (hpl : Pl1 X pos [b] := by rfl) : CoR X K (.Call (.Name "max" p) [a, b] [] pos) [a, b] maxT := .one (con_callB (NL.cl_max hc) hm NL.bt_max hg (by decide) (by decide) hpl) rd_max
theorem co_min (hm : X.mg "min" = none) (hc : X.calm = true := by rfl) (hg : Gl X "min" := by rfl) (hpl : Pl1 X pos [b] := by rfl) : CoR X K (.Call (.Name "min" p) [a, b] [] pos) [a, b] minT := .one (con_callB (NL.cl_min hc) hm NL.bt_min hg (by decide) (by decide) hpl) rd_min
theorem co_int (hm : X.mg "int" = none) (hg : Gl X "int" := by rfl) (hpl : Pl1 X pos [] := by rfl) : CoR X K (.Call (.Name "int" p) [a] [] pos) [a] intT := .one (con_callTy NL.cl_int hm NL.bt_int hg (by decide) (by decide) hpl) rd_int
theorem co_str (hm : X.mg "str" = none) (hg : Gl X "str" := by rfl) (hpl : Pl1 X pos [] := by rfl) : CoR X K (.Call (.Name "str" p) [a] [] pos) [a] strT := .one (con_callTy NL.cl_str hm NL.bt_str hg (by decide) (by decide) hpl) rd_str
abbrev listA : Op := altT listT listS
theorem cn_list (hm : X.mg "list" = none) (hc : X.calm = true := by rfl) (hg : Gl X "list" := by rfl) (hpl : Pl1 X pos [] := by rfl) (h : X.K = K := by rfl) : CoN X K (.Call (.Name "list" p) [a] [] pos) [a] listA := .alt (.one (con_callTy (NL.cl_list K h) hm NL.bt_list hg (by decide) (by decide) hpl) nw_list list_kids) (.one (con_callTy (NL.cl_listS hc) hm NL.bt_list hg (by decide) (by decide) hpl) nw_listS listS_kids)
theorem co_tuple (hm : X.mg "tuple" = none) (hg : Gl X "tuple" := by rfl) (hpl : Pl1 X pos [] := by rfl) (h : X.K = K := by rfl) : Co X K (.Call (.Name "tuple" p) [a] [] pos) [a] tupleL := .one (con_callTy (NL.cl_tuple K h) hm NL.bt_tuple hg (by decide) (by decide) hpl) op_tuple
/-! ### isinstance, what is built in -/
def T.tyn : T → Option String
  | .non => some "NoneType" | .bl _ => some "bool" | .int _ => some "int" | .str _ => some "str"
  | .lst _ => some "list" | .tup _ => some "tuple" | .ctup _ => some "tuple" | .clst _ => some "list" | .dic _ _ => some "dict" | .dit _ _ => some "dict"
  | _ => none
def baseTys : List String := ["NoneType", "bool", "int", "str", "list", "tuple", "dict"]
def subB (m n : String) : Option Bool := if m ∈ baseTys ∧ n ∈ baseTys then some (m == n || (m == "bool" && n == "int")) else none
def isiT : Op
  | [t, .ty n] => match t.tyn with
    | some m => match subB m n with | some b => some (.bl b) | none => none
    | none => none
  | _ => none
theorem subB_kit {m n : String} {b : Bool} (h : subB m n = some b) : PySem.W.kitOne K (.type m) (.type n) = some b := by
  unfold subB at h
  split at h
  · rename_i z
    obtain ⟨z1, z2⟩ := z
    cases h
    unfold baseTys at z1 z2
    simp only [List.mem_cons, List.not_mem_nil, or_false] at z1 z2
    rcases z1 with rfl | rfl | rfl | rfl | rfl | rfl | rfl <;> rcases z2 with rfl | rfl | rfl | rfl | rfl | rfl | rfl <;> rfl
  · cases h
theorem SqT.tyx {H : Hp} {a : Addr} {vs : List V} (h : SqT K H a vs) : TyX K H (.ref a) (.type "tuple") := by
  rcases h with (h | ⟨o, h⟩) | ⟨o, its, n, h1, h2, _⟩
  · exact .base (.tup h)
  · exact .fTuple h
  · exact .kTuple h1 h2
theorem SqL.tyx {H : Hp} {a : Addr} {vs : List V} (h : SqL K H a vs) : TyX K H (.ref a) (.type "list") := by
  rcases h with (h | ⟨o, h⟩) | ⟨o, its, n, h1, h2, _⟩
  · exact .base (.lst h)
  · exact .base (.frz h)
  · exact .kList h1 h2
theorem Rp.tyx {H : Hp} {x : V} {t : T} {m : String} (h : Rp K H x t) (e : t.tyn = some m) : TyX K H x (.type m) := by
  cases t with
  | non => cases e; rw [h.non]; exact .base .non
  | bl b => cases e; rw [h.bl]; exact .base (.bl b)
  | int i => cases e; rw [h.int]; exact .base (.int i)
  | str z => cases e; rw [h.str.1]; exact .base (.str z)
  | lst ts => cases e; obtain ⟨a, vs, rfl, k, _⟩ := h.lst; exact SqL.tyx k
  | tup ts => cases e; obtain ⟨a, vs, rfl, k, _⟩ := h.tup; exact SqT.tyx k
  | ctup ts => cases e; obtain ⟨a, vs, rfl, k, _⟩ := h.ctup; exact SqT.tyx k
  | clst ts => cases e; obtain ⟨a, vs, rfl, k, _⟩ := h.clst; exact SqL.tyx k
  | dic ks ts => cases e; obtain ⟨a, vs, rfl, _, k, _⟩ := h.dic; exact .base (.dK k)
  | dit ks ts => cases e; obtain ⟨a, vs, rfl, _, k, _⟩ := h.dit; exact .base (.dT k)
  | ins c fs ts => cases e
  | gl x => cases e
  | ty n => cases e
theorem rd_isi : DRd K (NL.dIsi K) isiT := fun H xs ts c Q r e k => by
  unfold isiT at e
  split at e
  · rename_i t n
    split at e
    · rename_i m hm
      split at e
      · rename_i b hb
        cases e
        obtain ⟨x, y, rfl, h1, h2⟩ := r.two
        have h3 := h2.ty
        subst h3
        exact ⟨x, _, _, _, b, rfl, .ty n, h1.tyx hm, subB_kit hb, k _ H .refl (uni rfl)⟩
      · cases e
    · cases e
  · cases e
theorem isi_bl : ∀ ts c, isiT ts = some c → ∃ b, c = .bl b := fun ts c e => by
  unfold isiT at e
  split at e
  · split at e
    · split at e
      · cases e; exact ⟨_, rfl⟩
      · cases e
    · cases e
  · cases e
theorem co_isi (hm : X.mg "isinstance" = none) (hg : Gl X "isinstance" := by rfl) (hpl : Pl1 X pos [b] := by rfl) (h : X.K = K := by rfl) : CoR X K (.Call (.Name "isinstance" p) [a, b] [] pos) [a, b] isiT := .one (con_callB (NL.cl_isinstance K h) hm NL.bt_isinstance hg (by decide) (by decide) hpl) rd_isi
end
end NQ
namespace NQ
open PySem L2
/-! ### a and b, a or b as values -/
def truW : T → Option Bool
  | .non => some false
  | .bl b => some b
  | .int i => some (i != 0)
  | .str z => if z.length ≤ sizeLine then some ((z.length : Int) != 0) else none
  | .lst ts => some (!ts.isEmpty)
  | .tup ts => some (!ts.isEmpty)
  | .dic ks ts => if ks.length = ts.length then some (!ts.isEmpty) else none
  | _ => none
theorem Rp.truW {K : PySem.W.Frag} {H : Hp} {x : V} {t : T} {b : Bool} (h : Rp K H x t) (e : truW t = some b) : TruV K x H b := by
  have e2 : truT t = some b := by
    cases t <;> first
      | exact e
      | cases e
  rcases h.tru e2 with z | ⟨p, kvs, rfl, z, rfl⟩
  · exact z
  · exfalso
    cases t with
    | dit ks ts => cases e
    | ctup ts => cases e
    | clst ts => cases e
    | dic ks ts => obtain ⟨a, vs, q, _, k, _⟩ := h.dic; cases q; rw [z] at k; cases k
    | lst ts =>
      cases h with
      | sc h => exact h.elim
      | nd c _ => rcases c with c | ⟨_, c⟩ <;> (rw [z] at c; cases c)
    | tup ts =>
      cases h with
      | sc h => exact h.elim
      | nd c _ => rw [show _ = _ from c] at z; cases z
    | non => cases h.non
    | bl b => cases h.bl
    | int b => cases h.int
    | str b => cases h.str.1
    | ins c fs ts => cases e
    | gl x => cases e
    | ty n => cases e
def andV (f g : Qf) : Qf := fun δ => match f δ with
  | none => none
  | some t => match truW t with
    | some true => g δ
    | some false => some t
    | none => none
def orV (f g : Qf) : Qf := fun δ => match f δ with
  | none => none
  | some t => match truW t with
    | some true => some t
    | some false => g δ
    | none => none
def andW (f g : Dl → Rs) : Dl → Rs := fun δ => match f δ with
  | none => none
  | some (.error e, δ') => some (.error e, δ')
  | some (.ok t, δ') => match truW t with
    | some true => g δ'
    | some false => some (.ok t, δ')
    | none => none
def orW (f g : Dl → Rs) : Dl → Rs := fun δ => match f δ with
  | none => none
  | some (.error e, δ') => some (.error e, δ')
  | some (.ok t, δ') => match truW t with
    | some true => some (.ok t, δ')
    | some false => g δ'
    | none => none
section
variable {X : Cx} {K : PySem.W.Frag} {sh : Nat → Sh} {Wx : WX} {a b : Expr} {rest : List Expr} {pos : Pos} {f g : Qf} {u v : Dl → Rs} {op : BoolOp}
theorem m_b1 {m : Md} (h : PE X a (TQ K sh m f)) : PE X (.BoolOp op [a] pos) (TQ K sh m f) := pe_one h
theorem m_b1E (h : PE X a (TF K sh Wx u)) : PE X (.BoolOp op [a] pos) (TF K sh Wx u) := pe_one h
theorem m_and {m : Md} (h : PE X a (TQ K sh m f)) (h2 : PE X (.BoolOp .And (b :: rest) pos) (TQ K sh m g)) (hK : X.K = K := by rfl) : PE X (.BoolOp .And (a :: b :: rest) pos) (TQ K sh m (andV f g)) :=
  pe_imp (NL.q_andT K h h2 hK) fun σ H Q ⟨W, Y, Fm, δ, t, fr, e, k⟩ => by
    unfold andV at e
    split at e
    · cases e
    · rename_i t1 e1
      refine ⟨W, Y, Fm, δ, t1, fr, e1, fun x H1 ed r => ?_⟩
      split at e
      · rename_i e2
        exact ⟨true, r.rp.truW e2, by rw [if_pos rfl]; exact ⟨W, Y, Fm, δ, t, fr.ed0 ed, e, fun x2 H2 ed2 r2 => k x2 H2 (ed.tr ed2 fun _ z => z.elim) r2⟩⟩
      · rename_i e2
        cases e
        exact ⟨false, r.rp.truW e2, by rw [if_neg Bool.false_ne_true]; exact k x H1 ed r⟩
      · cases e
theorem m_or {m : Md} (h : PE X a (TQ K sh m f)) (h2 : PE X (.BoolOp .Or (b :: rest) pos) (TQ K sh m g)) (hK : X.K = K := by rfl) : PE X (.BoolOp .Or (a :: b :: rest) pos) (TQ K sh m (orV f g)) :=
  pe_imp (NL.q_orT K h h2 hK) fun σ H Q ⟨W, Y, Fm, δ, t, fr, e, k⟩ => by
    unfold orV at e
    split at e
    · cases e
    · rename_i t1 e1
      refine ⟨W, Y, Fm, δ, t1, fr, e1, fun x H1 ed r => ?_⟩
      split at e
      · rename_i e2
        cases e
        exact ⟨true, r.rp.truW e2, by rw [if_pos rfl]; exact k x H1 ed r⟩
      · rename_i e2
        exact ⟨false, r.rp.truW e2, by rw [if_neg Bool.false_ne_true]; exact ⟨W, Y, Fm, δ, t, fr.ed0 ed, e, fun x2 H2 ed2 r2 => k x2 H2 (ed.tr ed2 fun _ z => z.elim) r2⟩⟩
      · cases e
theorem m_andE (h : PE X a (TF K sh Wx u)) (h2 : PE X (.BoolOp .And (b :: rest) pos) (TF K sh Wx v)) (hK : X.K = K := by rfl) : PE X (.BoolOp .And (a :: b :: rest) pos) (TF K sh Wx (andW u v)) :=
  pe_imp (NL.q_andT K h h2 hK) fun σ H Q ⟨W, Y, Fm, δ, fr, k⟩ => by
    refine ⟨W, Y, Fm, δ, fr, ?_⟩
    unfold andW at k
    cases q : u δ with
    | none => simp only [q] at k; exact k
    | some p =>
      obtain ⟨p, δ'⟩ := p
      cases p with
      | error e => simp only [q] at k; exact k
      | ok t =>
        simp only [q] at k
        intro x H1 Fm1 fr1 x1 d1
        split at k
        · rename_i e2
          exact ⟨true, d1.rp.truW e2, by rw [if_pos rfl]; exact ⟨W, Y, Fm1, δ', fr1, k.shift x1⟩⟩
        · rename_i e2
          exact ⟨false, d1.rp.truW e2, by rw [if_neg Bool.false_ne_true]; exact k x H1 Fm1 fr1 x1 d1⟩
        · exact k.elim
theorem m_orE (h : PE X a (TF K sh Wx u)) (h2 : PE X (.BoolOp .Or (b :: rest) pos) (TF K sh Wx v)) (hK : X.K = K := by rfl) : PE X (.BoolOp .Or (a :: b :: rest) pos) (TF K sh Wx (orW u v)) :=
  pe_imp (NL.q_orT K h h2 hK) fun σ H Q ⟨W, Y, Fm, δ, fr, k⟩ => by
    refine ⟨W, Y, Fm, δ, fr, ?_⟩
    unfold orW at k
    cases q : u δ with
    | none => simp only [q] at k; exact k
    | some p =>
      obtain ⟨p, δ'⟩ := p
      cases p with
      | error e => simp only [q] at k; exact k
      | ok t =>
        simp only [q] at k
        intro x H1 Fm1 fr1 x1 d1
        split at k
        · rename_i e2
          exact ⟨true, d1.rp.truW e2, by rw [if_pos rfl]; exact k x H1 Fm1 fr1 x1 d1⟩
        · rename_i e2
          exact ⟨false, d1.rp.truW e2, by rw [if_neg Bool.false_ne_true]; exact ⟨W, Y, Fm1, δ', fr1, k.shift x1⟩⟩
        · exact k.elim
end
/-! ### a < b < c -/
def Ch (X : Cx) (K : PySem.W.Frag) (o : CmpOp) (op : Op) : Prop := ∃ r : R2, OpR X (compareOp o) r ∧ DRd K (r2 r) op
def chQ (op op' : Op) (f g h : Qf) : Qf := fun δ => match f δ, g δ with
  | some x, some y => match op [x, y] with
    | some (.bl true) => match h δ with
      | some z => op' [y, z]
      | none => none
    | some (.bl false) => some (.bl false)
    | _ => none
  | _, _ => none
section
variable {X : Cx} {K : PySem.W.Frag} {sh : Nat → Sh} {Wx : WX} {a b c : Expr} {pos : Pos} {f g h : Qf} {o o' : CmpOp} {op op' : Op} {m1 m2 m3 : Md}
theorem ch_lt : Ch X K .Lt ltT := ⟨_, NL.op_dLt, rd_cmp⟩
theorem ch_le : Ch X K .LtE leT := ⟨_, NL.op_dLe, rd_cmp⟩
theorem ch_gt : Ch X K .Gt gtT := ⟨_, NL.op_dGt, rd_cmp⟩
theorem ch_ge : Ch X K .GtE geT := ⟨_, NL.op_dGe, rd_cmp⟩
theorem ch_eq (hu : X.A.units + 64 < cLine) (h : X.K = K := by rfl) : Ch X K .Eq eqT := ⟨_, NL.op_dEq K hu h, rd_eq⟩
theorem ch_ne (hu : X.A.units + 64 < cLine) (h : X.K = K := by rfl) : Ch X K .NotEq neT := ⟨_, NL.op_dNe K hu h, rd_ne⟩
theorem ch_core {r r' : R2} {σ : L2.St} {H : Hp} {Q : VK} (d1 : DRd K (r2 r) op) (d2 : DRd K (r2 r') op') (q : TQ K sh .fz (chQ op op' f g h) σ H Q) : tChain r r' (TQ K sh m1 f) (TQ K sh m2 g) (TQ K sh m3 h) σ H Q := by
  obtain ⟨W, Y, Fm, δ, t, fr, e, k⟩ := q
  unfold chQ at e
  split at e
  · rename_i x y e1 e2
    refine ⟨W, Y, Fm, δ, x, fr, e1, fun vx H1 ed1 r1 => ⟨W, Y, Fm, δ, y, fr.ed0 ed1, e2, fun vy H2 ed2 r2 => ?_⟩⟩
    have ed12 := ed1.tr ed2 fun _ z => z.elim
    split at e
    · rename_i e3
      refine d1 H2 [vx, vy] [x, y] (.bl true) _ (.cons (r1.rp.ed0 ed2) (.cons r2.rp .nil)) e3 fun z H3 ed3 u3 => ?_
      have z3 : z = .bl true := (u3 noA fun _ z => z.elim).rp.bl
      refine ⟨true, z3, ?_⟩
      rw [if_pos rfl]
      split at e
      · rename_i w e4
        refine ⟨W, Y, Fm, δ, w, fr.ed0 (ed12.tr ed3 fun _ z => z.elim), e4, fun vw H4 ed4 r4 => ?_⟩
        refine d2 H4 [vy, vw] [y, w] t _ (.cons (r2.rp.ed0 (ed3.tr ed4 fun _ z => z.elim)) (.cons r4.rp .nil)) e fun z5 H5 ed5 u5 => ?_
        have ed := (ed12.tr ed3 fun _ z => z.elim).tr (ed4.tr ed5 fun _ z => z.elim) fun _ z => z.elim
        exact k z5 H5 ed (u5 _ ((fr.ed0 ((ed12.tr ed3 fun _ z => z.elim).tr ed4 fun _ z => z.elim)).al))
      · cases e
    · rename_i e3
      cases e
      refine d1 H2 [vx, vy] [x, y] (.bl false) _ (.cons (r1.rp.ed0 ed2) (.cons r2.rp .nil)) e3 fun z H3 ed3 u3 => ?_
      have z3 : z = .bl false := (u3 noA fun _ z => z.elim).rp.bl
      refine ⟨false, z3, ?_⟩
      rw [if_neg Bool.false_ne_true]
      exact k _ H3 (ed12.tr ed3 fun _ z => z.elim) (.sc rfl)
    · cases e
  · cases e
theorem m_ch (c1 : Ch X K o op) (c2 : Ch X K o' op') (ha : PE X a (TQ K sh m1 f)) (hb : PE X b (TQ K sh m2 g)) (hc : PE X c (TQ K sh m3 h)) (hm : lastMarks [o, o'] [b, c] = false := by with_unfolding_all rfl) : PE X (.Compare a [o, o'] [b, c] pos) (TQ K sh .fz (chQ op op' f g h)) := by
  obtain ⟨r, o1, d1⟩ := c1
  obtain ⟨r', o2, d2⟩ := c2
  exact pe_imp (pe_chain o1 o2 ha hb hc hm) fun σ H Q q => ch_core d1 d2 q
theorem mt_ch (c1 : Ch X K o op) (c2 : Ch X K o' op') (ha : PE X a (TQ K sh m1 f)) (hb : PE X b (TQ K sh m2 g)) (hc : PE X c (TQ K sh m3 h)) (hm : lastMarks [o, o'] [b, c] = false := by with_unfolding_all rfl) : PT X (.Compare a [o, o'] [b, c] pos) (TQT K sh (asB (chQ op op' f g h))) := by
  obtain ⟨r, o1, d1⟩ := c1
  obtain ⟨r', o2, d2⟩ := c2
  refine pt_imp (pt_chain o1 o2 ha hb hc hm) fun σ H Q ⟨W, Y, Fm, δ, b, fr, e, k⟩ => ?_
  unfold asB at e
  split at e
  · rename_i b' e1
    cases e
    exact ch_core d1 d2 ⟨W, Y, Fm, δ, _, fr, e1, fun x H' ed r => ⟨b, r.rp.bl, k H' ed⟩⟩
  · cases e
end
end NQ
namespace NQ
open PySem L2
/-! ### {k: v, ..} -/
def dispT (ks : List Key) : Op := fun ts => if ks.Nodup ∧ ks.length = ts.length ∧ ks.length ≤ 15 then some (.dic ks ts) else none
def prs (K : PySem.W.Frag) (sh : Nat → Sh) (Wx : WX) : List Key → List Opd → List (TE × TE)
  | k :: ks, o :: os => (tC (kV k), TO K sh Wx o) :: prs K sh Wx ks os
  | _, _ => []
theorem prs_ok {K : PySem.W.Frag} {sh : Nat → Sh} {Wx : WX} {σ : L2.St} : ∀ {ks : List Key} {os : List Opd} {H : Hp} {Q : List (V × V) → Hp → Prop}, ks.length = os.length → TOs K sh Wx os σ H (fun xs H' => Q ((ks.map kV).zip xs) H') → tPairs (prs K sh Wx ks os) σ H Q
  | [], [], H, Q, _, h => h
  | k :: ks, o :: os, H, Q, l, h => by
    show TO K sh Wx o σ H fun y H2 => _
    refine TO.mono σ H _ _ (fun x H' q => ?_) h
    exact prs_ok (Nat.succ.inj l) q
  | [], _ :: _, _, _, l, _ => by cases l
  | _ :: _, [], _, _, l, _ => by cases l
theorem putK_new {kvs : List (Key × V)} {k : Key} {v : V} (h : k ∉ kvs.map Prod.fst) : putK kvs k v = kvs ++ [(k, v)] := by
  have e : (kvs.any fun kv => decide (kv.1 = k)) = false := by
    rw [List.any_eq_false]
    intro p hp z
    exact h (List.mem_map.mpr ⟨p, hp, of_decide_eq_true z⟩)
  unfold putK
  rw [e]
  rfl
theorem zip_kV : ∀ {ks : List Key} {xs : List V}, (ks.map kV).zip xs = (ks.zip xs).map fun kv => (kV kv.1, kv.2)
  | [], _ => rfl
  | _ :: _, [] => rfl
  | k :: ks, x :: xs => by
    show (kV k, x) :: (ks.map kV).zip xs = _
    rw [zip_kV]
    rfl
theorem mergeK_nd : ∀ {ks : List Key} {vs : List V} {acc : List (Key × V)}, ks.Nodup → (∀ k ∈ ks, k ∉ acc.map Prod.fst) → mergeK acc (ks.zip vs) = acc ++ ks.zip vs
  | [], vs, acc, _, _ => by simp [mergeK]
  | k :: ks, [], acc, _, _ => by simp [mergeK]
  | k :: ks, v :: vs, acc, nd, h => by
    have := List.nodup_cons.mp nd
    show mergeK (putK acc k v) (ks.zip vs) = _
    rw [putK_new (h k (List.mem_cons_self ..)), mergeK_nd this.2 fun k' hk z => ?_]
    · simp
    · rw [List.map_append, List.mem_append] at z
      rcases z with z | z
      · exact h k' (List.mem_cons_of_mem _ hk) z
      · simp only [List.map_cons, List.map_nil, List.mem_singleton] at z
        subst z
        exact this.1 hk
def fDisp (ks : List Key) (os : List Opd) : Dl → Rs := opn (dispT ks) os
section
variable {X : Cx} {K : PySem.W.Frag} {sh : Nat → Sh} {Wx : WX} {keys : List (Option Expr)} {values : List Expr} {pos : Pos} {ks : List Key} {os : List Opd}
theorem m_disp (h : PPs X pos keys values (prs K sh Wx ks os)) (hall : keys.all (·.isSome) = true := by rfl) (hl : keys.length = values.length := by rfl) (h0 : keys ≠ [] := by exact fun z => nomatch z)
    (h15 : keys.length ≤ 15 := by decide) (hlk : ks.length = os.length := by rfl) (hf : vals os = true := by rfl) : PE X (.Dict keys values pos) (TN K sh (.all .fz) Wx (fDisp ks os)) := by
  refine pe_imp (pe_disp h hall hl h0 h15) fun σ H Q h => ?_
  obtain ⟨W, Y, Fm, δ, fr, h⟩ := h
  intro p hp
  refine prs_ok hlk ?_
  have hp' : upd H p (.dK []) p = some (.dK []) := upd_same
  have fr1 : Fr K sh W ([p] ++ Y) Fm (upd H p (.dK [])) σ δ := fr.hold hp (EdP.new hp) (by rw [hp']; exact fun z => nomatch z)
  refine args_ok (Wx := Wx) fr1 ?_
  rcases opn_sem (C := fun r => Kn K sh (.all .fz) Wx W Y Fm σ H r Q) (fun z => z) h with ⟨er, δ', e1, h⟩ | ⟨l, δ', ts, c, e1, e2, e3, h⟩
  · rw [e1]
    intro d v H' Fm' f' x' q k
    refine h d v H' Fm' f'.let ⟨?_, fun a z => ?_⟩ ⟨fun z => q.1 (z.imp (fun z => z.imp (fun w => List.mem_append_right _ w) id) id), q.2⟩ (k.weak fun a z => ?_)
    · exact (EdP.new hp).weak (fun _ z => z.elim) |>.tr x'.1 fun a z => .inl z
    · rcases x'.2 a z with z | z
      · exact .inl z
      · exact .inr ((EdP.new (o := .dK []) hp).free z)
    · rcases z with (z | z) | z
      · exact .inl (.inl (List.mem_append_right _ z))
      · exact .inl (.inr z)
      · exact .inr z
  · rw [e1]
    refine ⟨⟨ts, e2⟩, fun xs H' Fm' f' x' a' => ?_⟩
    unfold dispT at e3
    split at e3
    · rename_i g
      cases e3
      have dl := a'.df (runs_vals hf e1) e2
      have hpH : H' p = some (.dK []) := x'.1.1 p _ (fun ⟨i, z⟩ => fr1.xd i p (List.mem_append_left _ (List.mem_singleton.mpr rfl)) z) hp'
      have lx : ks.length = xs.length := by rw [g.2.1, dl.length]
      refine ⟨hpH, ks.zip xs, ?_, ?_, ?_⟩
      · exact zip_kV
      · rw [List.length_zip]; omega
      · rw [mergeK_nd g.1 (fun _ _ z => absurd z List.not_mem_nil), List.nil_append]
        have ed : EdP (fun a => a = p) H' (upd H' p (.dK (ks.zip xs))) := EdP.put
        have xt : Xt (Om Fm) (fun a => a ∈ [p] ∨ Om Fm' a) H (upd H' p (.dK (ks.zip xs))) := by
          refine ⟨(((EdP.new (o := .dK []) hp).weak (fun _ z => z.elim)).tr x'.1 fun a z => .inl z).tr ed fun a z => ?_, fun a z => ?_⟩
          · rw [z]; exact .inr hp
          · rcases z with z | z
            · rw [List.mem_singleton.mp z]; exact .inr hp
            · rcases x'.2 a z with z | z
              · exact .inl z
              · exact .inr ((EdP.new (o := .dK []) hp).free z)
        refine h (.ref p) _ Fm' [p] (f'.touch (List.mem_append_left _ (List.mem_singleton.mpr rfl)) ed) ?_ xt
        refine Ow.nd ⟨lx, upd_same⟩ rfl (DfL.ow (dl.step ed (fun a z => ?_) fun a z => .inl z))
        rw [z]
        exact .inl (.inl (.inl (List.mem_append_left _ (List.mem_singleton.mpr rfl))))
    · cases e3
end
/-! ### a, b = e -/
def sAsg (f : Dl → Rs) (g : Gf) : Sf := fun δ => match f δ with
  | none => none
  | some (.error e, δ') => some (.exc e, δ')
  | some (.ok t, δ') => match g t δ' with
    | some δ2 => some (.nx, δ2)
    | none => none
section
variable {X : Cx} {K : PySem.W.Frag} {c : Cf} {Wx : WX} {e tg : Expr} {pos : Pos} {f : Dl → Rs} {g : Gf} {ns : List Nat}
theorem ms_asg (he : PE X e (TF K c.sh Wx f)) (hg : PG X tg (TGF K c ns g)) (hs : swapsWithSole [tg] e pos.line X.env = pure false := by rfl) (hw : swappedStores [tg] e X.env = pure none := by rfl)
    (h1 : (assignEach [tg] X.env).map (·.2) = [assign tg X.env] := by rfl) (hns : ∀ i ∈ ns, c.pr i = false := by decide) : PS X (.Assign [tg] e pos) (SF K c Wx (sAsg f g)) := ps_imp (ps_asg he hg hs hw h1) fun D σ H ⟨W, Y, Fm, δ, fr, k⟩ => by
  refine ⟨W, Y, Fm, δ, fr, ?_⟩
  unfold sAsg at k
  cases q : f δ with
  | none => simp only [q] at k; exact k
  | some p =>
    obtain ⟨p, δ'⟩ := p
    cases p with
    | error er => simp only [q] at k; exact Kes.ke k
    | ok t =>
      simp only [q] at k
      intro x H1 Fm1 f1 x1 d1
      cases q2 : g t δ' with
      | none => simp only [q2] at k; exact k.elim
      | some δ2 =>
        simp only [q2] at k
        exact ⟨W, Y, Fm1, δ', t, f1, d1, δ2, q2, fun σ' kp on f2 => k σ' H1 Fm1 kp f2 x1⟩
end
/-! ### from here on a thing of one's own is frozen, to the end of the block -/
def Cf.fzAt (c : Cf) (i : Nat) : Cf := { c with sh := fun j => if j = i then .fz else c.sh j }
def sFrz (i : Nat) (G : Sf) : Sf := fun δ => match dAt δ i with
  | none => none
  | some _ => match G δ with
    | none => none
    | some (fl, δ') => some (fl, δ'.set i none)
section
variable {K : PySem.W.Frag} {sh sh' : Nat → Sh} {W : Addr → Prop} {Y : List Addr} {Fm : Nat → List Addr} {H : Hp} {σ : L2.St} {δ : Dl} {i : Nat}
theorem Fr.resh (f : Fr K sh W Y Fm H σ δ) (h : ∀ j, j ≠ i → sh' j = sh j) (e : dAt δ i = none) : Fr K sh' W Y Fm H σ δ := by
  refine { f with rel := fun j t q => ?_ }
  obtain ⟨v, h1, h2⟩ := f.rel j t q
  have : j ≠ i := fun z => by rw [z, e] at q; cases q
  exact ⟨v, h1, by rw [h j this]; exact h2⟩
theorem dAt_set_none : ∀ {δ : Dl} {i : Nat}, dAt (δ.set i none) i = none
  | [], _ => rfl
  | _ :: _, 0 => rfl
  | _ :: r, i + 1 => dAt_set_none (δ := r) (i := i)
theorem dAt_same : ∀ {δ : Dl} {i : Nat} {t : T}, dAt δ i = some t → δ.set i (some t) = δ
  | [], _, _, h => by cases h
  | x :: r, 0, t, h => by show some t :: r = x :: r; rw [← show x = some t from h]
  | x :: r, i + 1, t, h => by show x :: r.set i (some t) = x :: r; rw [dAt_same (δ := r) h]
theorem Fr.drop (f : Fr K sh W Y Fm H σ δ) (h : Fm i = []) : Fr K sh W Y Fm H σ (δ.set i none) := by
  refine { f with rel := fun j t q => ?_, un := fun j q => ?_, len := by rw [List.length_set]; exact f.len }
  · by_cases z : j = i
    · subst z; rw [dAt_set_none] at q; cases q
    · rw [dAt_set_ne z] at q; exact f.rel j t q
  · by_cases z : j = i
    · subst z; exact h
    · rw [dAt_set_ne z] at q; exact f.un j q
theorem Fr.freeze {t : T} (f : Fr K sh W Y Fm H σ δ) (e : dAt δ i = some t) (hn : (sh i).pln = true) : Fr K (fun j => if j = i then .fz else sh j) W Y (fun j => if j = i then [] else Fm j) H σ δ := by
  obtain ⟨v, h1, h2⟩ := f.rel i t e
  have o := h2.own hn
  have f1 := (f.del i (some v)).let
  have f2 := f1.resh (i := i) (sh' := fun j => if j = i then .fz else sh j) (fun j z => if_neg z) dAt_set_none
  have d : Df K (Gw Y (fun j => if j = i then [] else Fm j) W) H v t := Ow.freeze (fun a z => ?_) o
  · have f3 := f2.set (i := i) (v := v) (t := t) (by simp) (.inr (by simp only [if_pos]; exact .fz d))
    rw [List.set_set, List.set_set] at f3
    have es : σ.set i (some v) = σ := by
      refine List.ext_getElem? fun j => ?_
      by_cases z : j = i
      · subst z; rw [List.getElem?_set_self (List.getElem?_eq_some_iff.mp h1).1, h1]
      · rw [List.getElem?_set_ne (fun w => z w.symm)]
    rw [es, dAt_same e] at f3
    exact f3
  · rcases z with (z | ⟨j, z⟩) | z
    · exact ⟨.inl (.inl z), f.xd i a z⟩
    · by_cases y : j = i
      · simp only [if_pos y] at z; exact absurd z List.not_mem_nil
      · simp only [if_neg y] at z
        exact ⟨.inl (.inr ⟨j, z⟩), f.dj j i a y z⟩
    · exact ⟨.inr z, fun w => f.dw i a w z⟩
end
section
variable {X : Cx} {K : PySem.W.Frag} {c : Cf} {Wx : WX} {rest : List Stmt} {G : Sf}
theorem frz_ok {i : Nat} {D : Ends} {σ : L2.St} {H : Hp} (hn : (c.sh i).pln = true) (h : SF K c Wx (sFrz i G) D σ H) : SF K (c.fzAt i) Wx G D σ H := by
  obtain ⟨W, Y, Fm, δ, fr, k⟩ := h
  unfold sFrz at k
  cases q : dAt δ i with
  | none => simp only [q] at k; exact k.elim
  | some t =>
    simp only [q] at k
    refine ⟨W, Y, _, δ, fr.freeze q hn, ?_⟩
    have sub : ∀ a, Om (fun j => if j = i then [] else Fm j) a → Om Fm a := fun a ⟨j, z⟩ => by
      by_cases y : j = i
      · simp only [if_pos y] at z; exact absurd z List.not_mem_nil
      · simp only [if_neg y] at z; exact ⟨j, z⟩
    have xt : ∀ {U : Addr → Prop} {H' : Hp}, Xt (Om (fun j => if j = i then [] else Fm j)) U H H' → Xt (Om Fm) U H H' := fun x => ⟨x.1.weak sub, fun a z => (x.2 a z).imp (sub a) id⟩
    have back : ∀ {Y' : List Addr} {Fm' : Nat → List Addr} {H' : Hp} {σ' : L2.St} {δ' : Dl}, Fr K (c.fzAt i).sh W Y' Fm' H' σ' δ' → Fr K c.sh W Y' Fm' H' σ' (δ'.set i none) := fun f =>
      (f.drop (f.fz0 (i := i) (if_pos rfl))).resh (i := i) (fun j z => (if_neg z).symm) dAt_set_none
    cases q2 : G δ with
    | none => simp only [q2] at k; exact k
    | some p =>
      obtain ⟨fl, δ'⟩ := p
      simp only [q2] at k
      cases fl with
      | nx => exact fun σ' H' Fm' kp f x => k σ' H' Fm' kp (back f) (xt x)
      | brk => exact fun σ' H' Fm' kp f x => k σ' H' Fm' kp (back f) (xt x)
      | cont => exact fun σ' H' Fm' kp f x => k σ' H' Fm' kp (back f) (xt x)
      | ret t => exact fun x σ' H' Fm' F kp f o xx => k x σ' H' Fm' F kp (back f) o (xt xx)
      | exc e => exact fun σ' d v H' Fm' kp f x w y => k σ' d v H' Fm' kp (back f) (xt x) w y
theorem ms_frz (i : Nat) (h : PSs X rest (SF K (c.fzAt i) Wx G)) (hn : (c.sh i).pln = true := by rfl) : PSs X rest (SF K c Wx (sFrz i G)) := pss_imp h fun D σ H q => frz_ok hn q
end
end NQ
namespace NQ
open PySem L2
section
variable {K : PySem.W.Frag} {b1 b2 : Bool}
theorem slS_parts : ∀ ts c, slS b1 b2 ts = some c → ∃ a lo hi, partsT b1 b2 ts = some (a, lo, hi) := fun ts c e => by
  unfold slS at e
  split at e
  · rename_i h; exact ⟨_, _, _, h⟩
  · cases e
theorem slL_parts : ∀ ts c, slL b1 b2 ts = some c → ∃ a lo hi, partsT b1 b2 ts = some (a, lo, hi) := fun ts c e => by
  unfold slL at e
  split at e
  · rename_i h; exact ⟨_, _, _, h⟩
  · rename_i h; exact ⟨_, _, _, h⟩
  · cases e
theorem slS_chk : (b1 = true → b2 = true → Chk K [anyV, isI, isI] (slS b1 b2)) ∧ (b1 ≠ b2 → Chk K [anyV, isI] (slS b1 b2)) := chk_sl slS_parts
theorem slL_chk : (b1 = true → b2 = true → Chk K [anyV, isI, isI] (slL b1 b2)) ∧ (b1 ≠ b2 → Chk K [anyV, isI] (slL b1 b2)) := chk_sl slL_parts
theorem slL_kids : ∀ ts c, slL b1 b2 ts = some c → (Sh.all .fz).kids c = some (c.kids.map fun _ => .fz) := fun ts c e => by
  unfold slL at e
  split at e
  · cases e; rfl
  · cases e; rfl
  · cases e
end
def sNo : Sf := fun _ => none
section
variable {X : Cx} {K : PySem.W.Frag} {c : Cf} {sh : Nat → Sh} {Wx : WX} {st : Stmt} {rest : List Stmt} {e : Expr}
theorem ms_no : PS X st (SF K c Wx sNo) := ⟨fun _ _ _ _ _ _ ⟨_, _, _, _, _, k⟩ => k.elim⟩
theorem ms_nos : PSs X rest (SF K c Wx sNo) := ⟨fun _ _ _ _ _ _ ⟨_, _, _, _, _, k⟩ => k.elim⟩
theorem m_no : PE X e (TF K sh Wx fun _ => none) := ⟨fun _ _ _ _ _ _ ⟨_, _, _, _, _, k⟩ => k.elim⟩
theorem m_noQ {m : Md} : PE X e (TQ K sh m fun _ => none) := ⟨fun _ _ _ _ _ _ ⟨_, _, _, _, _, _, k, _⟩ => nomatch k⟩
end
end NQ
namespace NQ
open PySem L2
/-! ### what the pure functions do, step by step -/
section
variable {F G : Sf} {f g h : Dl → Rs} {u v w : Qf} {a b : Qb} {t s : Dl → Rb} {δ : Dl} {i : Nat} {op op' : Op} {fs : List Qf} {os : List Opd} {x y : T} {ts : List T} {gp : Gf} {gs : Gfs} {its : Il}
theorem ap_seq : sSeq F G δ = match F δ with
  | some (.nx, δ') => G δ'
  | r => r := (rfl)
theorem ap_next : sNext δ = some (.nx, δ) := (rfl)
theorem ap_brk : sBrk δ = some (.brk, δ) := (rfl)
theorem ap_cont : sCont δ = some (.cont, δ) := (rfl)
theorem ap_set : sSet i f δ = match f δ with
  | none => none
  | some (.error e, δ') => some (.exc e, δ')
  | some (.ok t, δ') => some (.nx, δ'.set i (some t)) := (rfl)
theorem ap_setN : sSetN i f δ = match f δ with
  | none => none
  | some (.error e, δ') => some (.exc e, δ')
  | some (.ok t, δ') => if i < δ'.length then some (.nx, δ'.set i (some t)) else none := (rfl)
theorem ap_drop : sDrop f δ = match f δ with
  | none => none
  | some (.error e, δ') => some (.exc e, δ')
  | some (.ok _, δ') => some (.nx, δ') := (rfl)
theorem ap_ret : sRet f δ = match f δ with
  | none => none
  | some (.error e, δ') => some (.exc e, δ')
  | some (.ok t, δ') => some (.ret t, δ') := (rfl)
theorem ap_retV : sRetV i δ = match dAt δ i with
  | none => none
  | some t => some (.ret t, δ.set i none) := (rfl)
theorem ap_retN : sRetN δ = some (.ret .non, δ) := (rfl)
theorem ap_if : sIf t F G δ = match t δ with
  | none => none
  | some (.error e, δ') => some (.exc e, δ')
  | some (.ok true, δ') => F δ'
  | some (.ok false, δ') => G δ' := (rfl)
theorem ap_for : sFor its gp F δ = match its δ with
  | none => none
  | some (.error e, δ') => some (.exc e, δ')
  | some (.ok ts, δ') => forM ts gp F δ' := (rfl)
theorem ap_setIx : sSetIx i u f δ = match f δ with
  | none => none
  | some (.error e, δ') => some (.exc e, δ')
  | some (.ok w, δ') => match u δ' with
    | some (.int n) => match dAt δ' i with
      | some (.lst ts) => match setAt ts n w with
        | some ts' => some (.nx, δ'.set i (some (.lst ts')))
        | none => none
      | _ => none
    | _ => none := (rfl)
theorem ap_aug : sAug i op f δ = match dAt δ i with
  | some a => match f δ with
    | none => none
    | some (.error e, δ') => some (.exc e, δ')
    | some (.ok b, δ') => match op [a, b] with
      | some c => some (.nx, δ'.set i (some c))
      | none => none
  | none => none := (rfl)
theorem ap_asg : sAsg f gp δ = match f δ with
  | none => none
  | some (.error e, δ') => some (.exc e, δ')
  | some (.ok t, δ') => match gp t δ' with
    | some δ2 => some (.nx, δ2)
    | none => none := (rfl)
theorem ap_frz : sFrz i F δ = match dAt δ i with
  | none => none
  | some _ => match F δ with
    | none => none
    | some (fl, δ') => some (fl, δ'.set i none) := (rfl)
theorem ap_no : sNo δ = none := (rfl)
theorem ap_qE : qE u δ = match u δ with
  | none => none
  | some t => some (.ok t, δ) := (rfl)
theorem ap_opq : opq op fs δ = match evq fs δ with
  | none => none
  | some ts => op ts := (rfl)
theorem ap_opn : opn op os δ = match runs os δ with
  | none => none
  | some (.error e, δ') => some (.error e, δ')
  | some (.ok l, δ') => match res l δ' with
    | none => none
    | some ts => match op ts with
      | none => none
      | some c => some (.ok c, δ') := (rfl)
theorem ap_opnc : opnc op os δ = match runs os δ with
  | some (.ok l, δ') => match res l δ' with
    | none => none
    | some ts => match op ts with
      | none => none
      | some c => some (.ok c, δ')
  | _ => none := (rfl)
theorem ap_call {ps : List Sh} {Ff : List T → Fo} : fCall ps Ff os δ = match runs os δ with
  | none => none
  | some (.error e, δ') => some (.error e, δ')
  | some (.ok l, δ') => match res l δ' with
    | none => none
    | some ts => match Ff ts with
      | none => none
      | some (.ret t, ts') => if ts'.length = ps.length then some (.ok t, wb ps (skO os) ts' δ') else none
      | some (.exc e, ts') => if ts'.length = ps.length then some (.error e, wb ps (skO os) ts' δ') else none := (rfl)
theorem ap_app : fApp i f δ = match dAt δ i with
  | some (.lst _) => match f δ with
    | none => none
    | some (.error e, δ') => some (.error e, δ')
    | some (.ok u, δ') => match dAt δ' i with
      | some (.lst ts) => if ts.length < sizeLine then some (.ok .non, δ'.set i (some (.lst (ts ++ [u])))) else none
      | _ => none
  | _ => none := (rfl)
theorem ap_eV : eV i δ = dAt δ i := (rfl)
theorem ap_eC : eC x δ = some x := (rfl)
theorem ap_ifE : ifE t f g δ = match t δ with
  | none => none
  | some (.error e, δ') => some (.error e, δ')
  | some (.ok true, δ') => f δ'
  | some (.ok false, δ') => g δ' := (rfl)
theorem ap_ifQ : ifQ a u v δ = match a δ with
  | none => none
  | some true => u δ
  | some false => v δ := (rfl)
theorem ap_asB : asB u δ = match u δ with
  | some (.bl b) => some b
  | _ => none := (rfl)
theorem ap_asTru : asTru u δ = match u δ with
  | some t => truT t
  | none => none := (rfl)
theorem ap_asBE : asBE f δ = match f δ with
  | some (.ok (.bl b), δ') => some (.ok b, δ')
  | some (.error e, δ') => some (.error e, δ')
  | _ => none := (rfl)
theorem ap_asTruE : asTruE f δ = match f δ with
  | none => none
  | some (.error e, δ') => some (.error e, δ')
  | some (.ok t, δ') => match truT t with
    | some b => some (.ok b, δ')
    | none => none := (rfl)
theorem ap_qB : qB a δ = match a δ with
  | none => none
  | some b => some (.ok b, δ) := (rfl)
theorem ap_notQ : notQ a δ = match a δ with
  | some b => some (!b)
  | none => none := (rfl)
theorem ap_andQ : andQ a b δ = match a δ with
  | some true => b δ
  | some false => some false
  | none => none := (rfl)
theorem ap_orQ : orQ a b δ = match a δ with
  | some true => some true
  | some false => b δ
  | none => none := (rfl)
theorem ap_notE : notE t δ = match t δ with
  | none => none
  | some (.error e, δ') => some (.error e, δ')
  | some (.ok b, δ') => some (.ok (!b), δ') := (rfl)
theorem ap_andE : andE t s δ = match t δ with
  | none => none
  | some (.error e, δ') => some (.error e, δ')
  | some (.ok true, δ') => s δ'
  | some (.ok false, δ') => some (.ok false, δ') := (rfl)
theorem ap_orE : orE t s δ = match t δ with
  | none => none
  | some (.error e, δ') => some (.error e, δ')
  | some (.ok true, δ') => some (.ok true, δ')
  | some (.ok false, δ') => s δ' := (rfl)
theorem ap_andV : andV u v δ = match u δ with
  | none => none
  | some t => match truW t with
    | some true => v δ
    | some false => some t
    | none => none := (rfl)
theorem ap_orV : orV u v δ = match u δ with
  | none => none
  | some t => match truW t with
    | some true => some t
    | some false => v δ
    | none => none := (rfl)
theorem ap_andW : andW f g δ = match f δ with
  | none => none
  | some (.error e, δ') => some (.error e, δ')
  | some (.ok t, δ') => match truW t with
    | some true => g δ'
    | some false => some (.ok t, δ')
    | none => none := (rfl)
theorem ap_orW : orW f g δ = match f δ with
  | none => none
  | some (.error e, δ') => some (.error e, δ')
  | some (.ok t, δ') => match truW t with
    | some true => some (.ok t, δ')
    | some false => g δ'
    | none => none := (rfl)
theorem ap_chQ : chQ op op' u v w δ = match u δ, v δ with
  | some x, some y => match op [x, y] with
    | some (.bl true) => match w δ with
      | some z => op' [y, z]
      | none => none
    | some (.bl false) => some (.bl false)
    | _ => none
  | _, _ => none := (rfl)
theorem ap_gN : gN i x δ = some (δ.set i (some x)) := (rfl)
theorem ap_gT : gT gs x δ = match seqT x with
  | some ts => gs ts δ
  | none => none := (rfl)
theorem ap_gNl : gNl [] δ = some δ := (rfl)
theorem ap_gCs : gCs gp gs (x :: ts) δ = match gp x δ with
  | some δ' => gs ts δ'
  | none => none := (rfl)
theorem ap_itE : itE f δ = match f δ with
  | none => none
  | some (.error e, δ') => some (.error e, δ')
  | some (.ok t, δ') => match itT t with
    | some ts => some (.ok ts, δ')
    | none => none := (rfl)
theorem ap_itR1 : itR1 f δ = match f δ with
  | some (.ok (.int j), δ') => if -(2 ^ 62) ≤ j ∧ j < 2 ^ 62 then some (.ok ((List.range j.toNat).map fun i => T.int (0 + (i : Nat))), δ') else none
  | some (.error e, δ') => some (.error e, δ')
  | _ => none := (rfl)
theorem ap_itR2 : itR2 f g δ = match f δ with
  | some (.ok (.int i), δ1) => match g δ1 with
    | some (.ok (.int j), δ') => if -(2 ^ 62) ≤ i ∧ i < 2 ^ 62 ∧ -(2 ^ 62) ≤ j ∧ j < 2 ^ 62 then some (.ok ((List.range (j - i).toNat).map fun n => T.int (i + (n : Nat))), δ') else none
    | some (.error e, δ') => some (.error e, δ')
    | _ => none
  | some (.error e, δ') => some (.error e, δ')
  | _ => none := (rfl)
theorem ap_itEn : itEn f δ = match f δ with
  | some (.ok (.lst ts), δ') => some (.ok (enT ts), δ')
  | some (.error e, δ') => some (.error e, δ')
  | _ => none := (rfl)
theorem ap_lcE {vs : List Nat} : lcE its gp t f vs δ = match its δ with
  | none => none
  | some (.error e, δ') => some (.error e, δ')
  | some (.ok ts, δ') => if ts.length < sizeLine then (match lcL gp t f vs ts (wipeD δ' vs) with
    | some (us, δ2) => some (.ok (.lst us), δ2)
    | none => none) else none := (rfl)
theorem ap_yes : yesB δ = some (.ok true, δ) := (rfl)
theorem ap_disp {ks : List Key} : fDisp ks os δ = opn (dispT ks) os δ := (rfl)
theorem ap_alt {f g : Op} : altT f g ts = match f ts with
  | some c => some c
  | none => g ts := (rfl)
theorem ap_fn {ps : List Sh} {m : Nat} {rs : Sh} : fnT ps m rs F ts = match F (ts.map some ++ List.replicate m none) with
  | some (.nx, δ) => if rs.nilOk then (match fin ps ts δ with | some l => some (.ret .non, l) | none => none) else none
  | some (.ret t, δ) => match fin ps ts δ with | some l => some (.ret t, l) | none => none
  | some (.exc e, δ) => match fin ps ts δ with | some l => some (.exc e, l) | none => none
  | _ => none := (rfl)
theorem seq_nx {δ' : Dl} {r : Ss} (h : F δ = some (.nx, δ')) (h2 : G δ' = r) : sSeq F G δ = r := by rw [ap_seq, h]; exact h2
theorem d0 {r : Dl} {z : Option T} : dAt (z :: r) 0 = z := (rfl)
theorem dS {r : Dl} {z : Option T} : dAt (z :: r) (i + 1) = dAt r i := (rfl)
/-! ### a loop keeps what it keeps -/
theorem for_inv {P : Nat → Dl → Prop} {R : Ss → Prop} (h0 : P 0 δ) (hs : ∀ n x δ, ts[n]? = some x → P n δ → ∃ δ1, gp x δ = some δ1 ∧ ((∃ δ2, (F δ1 = some (.nx, δ2) ∨ F δ1 = some (.cont, δ2)) ∧ P (n + 1) δ2) ∨ (∃ δ2, F δ1 = some (.brk, δ2) ∧ R (some (.nx, δ2))) ∨ (∃ t δ2, F δ1 = some (.ret t, δ2) ∧ R (some (.ret t, δ2))) ∨ ∃ e δ2, F δ1 = some (.exc e, δ2) ∧ R (some (.exc e, δ2)))) (he : ∀ δ, P ts.length δ → R (some (.nx, δ))) : R (forM ts gp F δ) := by
  have go : ∀ (l : List T) (n : Nat) (δ : Dl), ts = ts.take n ++ l → n + l.length = ts.length → P n δ → R (forM l gp F δ) := by
    intro l
    induction l with
    | nil => intro n δ e l p; exact he δ (by rw [← l]; exact p)
    | cons x r ih =>
      intro n δ e l p
      have hn : n < ts.length := by rw [← l]; simp
      have ex : ts[n]? = some x := by
        rw [e, List.getElem?_append_right (by simp; omega)]
        simp [Nat.min_eq_left (Nat.le_of_lt hn)]
      obtain ⟨δ1, e1, q⟩ := hs n x δ ex p
      have e2 : ts = ts.take (n + 1) ++ r := by
        have : ts.take (n + 1) = ts.take n ++ [x] := by rw [List.take_succ, ex]; rfl
        rw [this, List.append_assoc]; exact e
      have l2 : n + 1 + r.length = ts.length := by rw [← l]; simp; omega
      unfold forM
      rw [e1]
      rcases q with ⟨δ2, q | q, p2⟩ | ⟨δ2, q, p2⟩ | ⟨t, δ2, q, p2⟩ | ⟨t, δ2, q, p2⟩ <;> simp only [q]
      · exact ih _ _ e2 l2 p2
      · exact ih _ _ e2 l2 p2
      · exact p2
      · exact p2
      · exact p2
  exact go ts 0 δ rfl (by simp) h0
/-- the loop that goes on to its end -/
theorem for_all {P : Nat → Dl → Prop} (h0 : P 0 δ) (hs : ∀ n x δ, ts[n]? = some x → P n δ → ∃ δ1, gp x δ = some δ1 ∧ ∃ δ2, (F δ1 = some (.nx, δ2) ∨ F δ1 = some (.cont, δ2)) ∧ P (n + 1) δ2) : ∃ δ', forM ts gp F δ = some (.nx, δ') ∧ P ts.length δ' :=
  for_inv (P := P) (R := fun r => ∃ δ', r = some (.nx, δ') ∧ P ts.length δ') h0 (fun n x δ e p => by
    obtain ⟨δ1, h1, δ2, h2, h3⟩ := hs n x δ e p
    exact ⟨δ1, h1, .inl ⟨δ2, h2, h3⟩⟩) fun δ p => ⟨δ, rfl, p⟩
/-- a comprehension -/
theorem lc_all {vs : List Nat} {P : Nat → List T → Dl → Prop} (h0 : P 0 [] δ) (hs : ∀ n x us δ, ts[n]? = some x → P n us δ → ∃ δ1, gp x δ = some δ1 ∧ ((∃ δ2 δ3 u, t δ1 = some (.ok true, δ2) ∧ f δ2 = some (.ok u, δ3) ∧ P (n + 1) (us ++ [u]) (wipeD δ3 vs)) ∨ ∃ δ2, t δ1 = some (.ok false, δ2) ∧ P (n + 1) us (wipeD δ2 vs))) : ∃ us δ', lcL gp t f vs ts δ = some (us, δ') ∧ P ts.length us δ' := by
  have go : ∀ (l : List T) (n : Nat) (acc : List T) (δ : Dl), ts = ts.take n ++ l → n + l.length = ts.length → P n acc δ → ∃ us δ', lcL gp t f vs l δ = some (us, δ') ∧ P ts.length (acc ++ us) δ' := by
    intro l
    induction l with
    | nil => intro n acc δ e l p; exact ⟨[], δ, rfl, by rw [← l, List.append_nil]; exact p⟩
    | cons x r ih =>
      intro n acc δ e l p
      have hn : n < ts.length := by rw [← l]; simp
      have ex : ts[n]? = some x := by
        rw [e, List.getElem?_append_right (by simp; omega)]
        simp [Nat.min_eq_left (Nat.le_of_lt hn)]
      have e2 : ts = ts.take (n + 1) ++ r := by
        have : ts.take (n + 1) = ts.take n ++ [x] := by rw [List.take_succ, ex]; rfl
        rw [this, List.append_assoc]; exact e
      have l2 : n + 1 + r.length = ts.length := by rw [← l]; simp; omega
      obtain ⟨δ1, e1, ⟨δ2, δ3, u, q1, q2, p2⟩ | ⟨δ2, q1, p2⟩⟩ := hs n x acc δ ex p
      · obtain ⟨us, δ', k1, k2⟩ := ih _ _ _ e2 l2 p2
        refine ⟨u :: us, δ', ?_, by rw [List.append_assoc] at k2; exact k2⟩
        unfold lcL
        simp only [e1, q1, q2, k1]
      · obtain ⟨us, δ', k1, k2⟩ := ih _ _ _ e2 l2 p2
        refine ⟨us, δ', ?_, k2⟩
        unfold lcL
        simp only [e1, q1, k1]
  obtain ⟨us, δ', k1, k2⟩ := go ts 0 [] δ rfl (by simp) h0
  exact ⟨us, δ', k1, by simpa using k2⟩
end
end NQ
namespace NQ
open PySem L2
/-! ### what the operations do -/
section
variable {i j k n : Int} {a b s : Str} {x y z t u : T} {xs ys ts : List T} {ks : List Key} {c d : Bool} {f : Int → Int → Bool}
theorem o_addi : addR [.int i, .int j] = some (.int (i + j)) := (rfl)
theorem o_adds : addR [.str a, .str b] = if a.length + b.length ≤ sizeLine then some (.str (a ++ b)) else none := (rfl)
theorem o_addAi : addA [.int i, .int j] = some (.int (i + j)) := (rfl)
theorem o_addAs (h : a.length + b.length ≤ sizeLine) : addA [.str a, .str b] = some (.str (a ++ b)) := by simp only [ap_alt, o_adds, if_pos h]
theorem o_addL : addL [.lst xs, .lst ys] = if xs.length + ys.length ≤ sizeLine then some (.lst (xs ++ ys)) else none := (rfl)
theorem o_addAl : addA [.lst xs, .lst ys] = if xs.length + ys.length ≤ sizeLine then some (.lst (xs ++ ys)) else none := (rfl)
theorem o_subi : subT [.int i, .int j] = some (.int (i - j)) := (rfl)
theorem o_muli : mulR [.int i, .int j] = if (-(2 ^ 64) < i ∧ i < 2 ^ 64) ∨ (-(2 ^ 64) < j ∧ j < 2 ^ 64) ∨ i.natAbs.log2 + j.natAbs.log2 < 1000000 then some (.int (i * j)) else none := (rfl)
theorem o_muls : mulR [.str a, .int n] = if -(2 ^ 20) < n ∧ n < 2 ^ 20 ∧ a.length * n.toNat ≤ 1000000 then some (.str (Txt.mul a n)) else none := (rfl)
theorem o_mulL : mulL [.lst xs, .int n] = if -(2 ^ 63) ≤ n ∧ n < 2 ^ 63 ∧ xs.length * n.toNat ≤ sizeLine then some (.lst (List.replicate n.toNat xs).flatten) else none := (rfl)
theorem o_mulAi (h : (-(2 ^ 64) < i ∧ i < 2 ^ 64) ∨ (-(2 ^ 64) < j ∧ j < 2 ^ 64) ∨ i.natAbs.log2 + j.natAbs.log2 < 1000000) : mulA [.int i, .int j] = some (.int (i * j)) := by simp only [ap_alt, o_muli, if_pos h]
theorem o_mulAl : mulA [.lst xs, .int n] = if -(2 ^ 63) ≤ n ∧ n < 2 ^ 63 ∧ xs.length * n.toNat ≤ sizeLine then some (.lst (List.replicate n.toNat xs).flatten) else none := (rfl)
theorem o_modi : modT [.int i, .int j] = if 0 < j then some (.int (i % j)) else none := (rfl)
theorem o_divi : divT [.int i, .int j] = if 0 < j ∧ j.natAbs.log2 < 9000 then some (.int (i / j)) else none := (rfl)
theorem log_lt {n : Nat} (h : n < 1000000000000) : n.log2 < 9000 := by
  by_cases z : n = 0
  · rw [z]; decide
  · exact Nat.lt_trans ((Nat.log2_lt z).mpr (show n < 2 ^ 40 by omega)) (by decide)
theorem o_divs (h0 : 0 < j) (h1 : j < 1000000000000) : divT [.int i, .int j] = some (.int (i / j)) := by
  rw [o_divi, if_pos ⟨h0, log_lt (by omega)⟩]
theorem o_powi : powT [.int i, .int j] = if 0 ≤ j ∧ j ≤ 1000000 ∧ i.natAbs < 2 ^ 64 then some (.int (i ^ j.toNat)) else none := (rfl)
theorem o_pows (h0 : 0 ≤ j) (h1 : j ≤ 1000000) (h2 : -18446744073709551616 < i) (h3 : i < 18446744073709551616) : powT [.int i, .int j] = some (.int (i ^ j.toNat)) := by
  rw [o_powi, if_pos ⟨h0, h1, by omega⟩]
theorem sz_eq : sizeLine = 16777216 := (rfl)
theorem o_cmp : cmpT f [.int i, .int j] = some (.bl (f i j)) := (rfl)
theorem o_neg : negT [.int i] = some (.int (-i)) := (rfl)
theorem o_eq : eqT [x, y] = match eqB x y with | some b => some (.bl b) | none => none := (rfl)
theorem o_ne : neT [x, y] = match eqB x y with | some b => some (.bl (!b)) | none => none := (rfl)
theorem o_isN : isNT [x, .non] = some (.bl x.isN) := (rfl)
theorem o_notN : notNT [x, .non] = some (.bl (!x.isN)) := (rfl)
theorem o_len_l : lenT [.lst xs] = some (.int xs.length) := (rfl)
theorem o_len_t : lenT [.tup xs] = some (.int xs.length) := (rfl)
theorem o_len_c : lenT [.ctup xs] = some (.int xs.length) := (rfl)
theorem o_len_s : lenT [.str a] = if a.length ≤ sizeLine then some (.int a.length) else none := (rfl)
theorem o_int_i : intT [.int i] = some (.int i) := (rfl)
theorem o_int_b : intT [.bl c] = some (.int (if c then 1 else 0)) := (rfl)
theorem o_int_s : intT [.str a] = match PySem.intText? a with
    | some n => if a.length ≤ 640 then some (.int n) else none
    | none => none := (rfl)
theorem o_str_i : strT [.int i] = if i.natAbs.log2 < 1920 then some (.str (toString i)) else none := (rfl)
theorem o_str_s : strT [.str a] = some (.str a) := (rfl)
theorem o_abs : absT [.int i] = some (.int (if i < 0 then -i else i)) := (rfl)
theorem o_max : maxT [.int i, .int j] = some (.int (if j > i then j else i)) := (rfl)
theorem o_min : minT [.int i, .int j] = some (.int (if j < i then j else i)) := (rfl)
theorem o_list_l : listA [.lst xs] = some (.lst xs) := (rfl)
theorem o_list_t : listA [.tup xs] = some (.lst xs) := (rfl)
theorem o_list_c : listA [.ctup xs] = some (.lst xs) := (rfl)
theorem o_list_s : listA [.str a] = if a.length ≤ sizeLine then some (.lst ((NL.sgn a).map T.str)) else none := (rfl)
theorem o_tuple : tupleL [.lst xs] = some (.tup xs) := (rfl)
theorem o_lst : lstT ts = if ts.length ≤ sizeLine then some (.lst ts) else none := (rfl)
theorem o_tup : tupT ts = if ts.length ≤ sizeLine then some (.tup ts) else none := (rfl)
theorem o_disp : dispT ks ts = if ks.Nodup ∧ ks.length = ts.length ∧ ks.length ≤ 15 then some (.dic ks ts) else none := (rfl)
theorem o_split : splitT [.str a, .str b] = if (b.length == 0) = false ∧ a.length + 2 ≤ sizeLine then some (.lst ((Txt.split a b).map T.str)) else none := (rfl)
theorem o_words : wordsT [.str a] = if a.length + 2 ≤ sizeLine then some (.lst ((Txt.words a).map T.str)) else none := (rfl)
theorem o_strip : stripT [.str a] = if a.length ≤ sizeLine then some (.str (Txt.strip a)) else none := (rfl)
theorem o_join {l : List Str} : joinT [.str a, .lst (l.map T.str)] = if (l.map (·.length)).sum + l.length * a.length ≤ 16777216 then some (.str (Txt.join a l)) else none := by
  unfold joinT
  simp only [seqT, strs_map]
theorem o_slS1 : slS true false [.str a, .int i] = if a.length ≤ sizeLine then some (.str (cutS a (some i) none)) else none := (rfl)
theorem o_slS2 : slS false true [.str a, .int i] = if a.length ≤ sizeLine then some (.str (cutS a none (some i))) else none := (rfl)
theorem o_slS3 : slS true true [.str a, .int i, .int j] = if a.length ≤ sizeLine then some (.str (cutS a (some i) (some j))) else none := (rfl)
theorem o_slL1 : slL true false [.lst xs, .int i] = some (.lst (cutT xs (some i) none)) := (rfl)
theorem o_slL2 : slL false true [.lst xs, .int i] = some (.lst (cutT xs none (some i))) := (rfl)
theorem o_slL3 : slL true true [.lst xs, .int i, .int j] = some (.lst (cutT xs (some i) (some j))) := (rfl)
theorem o_ixR_l : ixRA [.lst xs, .int i] = match atI xs i with
    | some t => if t.isS then some t else none
    | none => none := by
  simp only [ap_alt, ixR, seqT]
  cases atI xs i with
  | none => rfl
  | some t => cases h : t.isS <;> simp [h, dgetR, dlook]
theorem o_ixR_t : ixRA [.tup xs, .int i] = match atI xs i with
    | some t => if t.isS then some t else none
    | none => none := by
  simp only [ap_alt, ixR, seqT]
  cases atI xs i with
  | none => rfl
  | some t => cases h : t.isS <;> simp [h, dgetR, dlook]
theorem o_ix_l : ixA [.lst xs, .int i] = atI xs i := by
  simp only [ap_alt, o_ixR_l, ixR, seqT, ixD, dgetR, dgetD, dlook]
  cases atI xs i with
  | none => rfl
  | some t => cases h : t.isS <;> simp [h]
theorem o_ix_t : ixA [.tup xs, .int i] = atI xs i := by
  simp only [ap_alt, o_ixR_t, ixR, seqT, ixD, dgetR, dgetD, dlook]
  cases atI xs i with
  | none => rfl
  | some t => cases h : t.isS <;> simp [h]
theorem o_ix_s : ixA [.str a, .int i] = if a.length ≤ sizeLine then (match atI a.cps.toList i with | some c => some (.str ⟨#[c]⟩) | none => none) else none := by
  simp only [ap_alt, ixR, ixD, dgetR, dgetD, dlook]
  by_cases h : a.length ≤ sizeLine
  · simp only [if_pos h]
    cases atI a.cps.toList i <;> rfl
  · simp only [if_neg h]
theorem o_ix_d {k : Key} (h : x.key = some k) : ixA [.dic ks xs, x] = lookT ks xs k := by
  have e1 : ixR [.dic ks xs, x] = none := by cases x <;> rfl
  have e2 : ixD [.dic ks xs, x] = none := by cases x <;> rfl
  simp only [ap_alt, e1, e2, dgetR, dgetD, dlook, h]
  cases lookT ks xs k with
  | none => rfl
  | some t => cases h : t.isS <;> simp [h]
theorem o_in (h : memB x y = some c) : inA [x, y] = some (.bl c) := by
  simp only [ap_alt, inT, h]
theorem o_nin (h : memB x y = some c) : ninA [x, y] = some (.bl (!c)) := by
  simp only [ap_alt, ninT, h]
theorem o_isi {m q : String} (h : x.tyn = some m) (h2 : subB m q = some c) : isiT [x, .ty q] = some (.bl c) := by
  simp only [isiT, h, h2]
theorem seq_l : seqT (.lst xs) = some xs := (rfl)
theorem seq_t : seqT (.tup xs) = some xs := (rfl)
theorem seq_c : seqT (.ctup xs) = some xs := (rfl)
theorem it_l : itT (.lst xs) = some xs := (rfl)
theorem it_t : itT (.tup xs) = some xs := (rfl)
theorem it_c : itT (.ctup xs) = some xs := (rfl)
theorem it_s : itT (.str a) = some ((NL.sgn a).map T.str) := (rfl)
theorem tru_b : truT (.bl c) = some c := (rfl)
theorem tru_i : truT (.int i) = some (i != 0) := (rfl)
theorem tru_l : truT (.lst xs) = some (!xs.isEmpty) := (rfl)
theorem tru_n : truT .non = some false := (rfl)
theorem tru_s : truT (.str a) = if a.length ≤ sizeLine then some ((a.length : Int) != 0) else none := (rfl)
theorem trw_b : truW (.bl c) = some c := (rfl)
theorem isS_i : (T.int i).isS = true := (rfl)
theorem isS_b : (T.bl c).isS = true := (rfl)
theorem isS_n : T.non.isS = true := (rfl)
theorem isS_s : (T.str a).isS = PyData.strOk a := (rfl)
theorem ixN_nat {m n : Nat} (h : n < m) : ixN m (n : Int) = some n := by
  unfold ixN
  rw [if_pos (by omega), if_pos (by omega)]
  rfl
theorem atI_nat {α : Type} {xs : List α} {n : Nat} (h : n < xs.length) : atI xs (n : Int) = xs[n]? := by
  unfold atI
  rw [ixN_nat h]
  rfl
theorem setAt_nat {α : Type} {xs : List α} {n : Nat} {x : α} (h : n < xs.length) : setAt xs (n : Int) x = some (xs.set n x) := by
  unfold setAt
  rw [ixN_nat h]
theorem atI0 {α : Type} {x : α} {r : List α} : atI (x :: r) 0 = some x := atI_nat (n := 0) (by simp)
theorem atI1 {α : Type} {x y : α} {r : List α} : atI (x :: y :: r) 1 = some y := atI_nat (n := 1) (by simp)
theorem setAt0 {α : Type} {x y : α} {r : List α} : setAt (x :: r) 0 y = some (y :: r) := setAt_nat (n := 0) (by simp)
theorem setAt1 {α : Type} {x y z : α} {r : List α} : setAt (x :: y :: r) 1 z = some (x :: z :: r) := setAt_nat (n := 1) (by simp)
end
end NQ
namespace NQ
open PySem L2
/-! ### the law's own call -/
def Scr (ns : List Int) (s : T) : Prop := s = .lst (ns.map .int) ∨ s = .clst (ns.map .int)
theorem ints_sv (ns : List Int) : (ns.map T.int).map T.sv = ns.map V.int := by rw [List.map_map]; rfl
theorem ints_isS (ns : List Int) : (ns.map T.int).all T.isS = true := by
  rw [List.all_eq_true]
  intro t ht
  obtain ⟨z, _, rfl⟩ := List.mem_map.mp ht
  rfl
theorem law_top {K : PySem.W.Frag} {F : List T → Fo} {a : Addr} {ns : List Int} {H : Hp} {Q : VK} {E : XK} (hS : SqL K H a (ns.map V.int)) (h : ∀ s, Scr ns s → F [s] = some (.ret (.bl true), [s])) (k : ∀ H', Q (.bl true) H') : FS K [.fz] .fz F [.ref a] H Q E := by
  have dv : ∀ {G : Addr → Prop}, DfL K G H (ns.map V.int) (ns.map T.int) := fun {G} => by
    have := DfL.sv (K := K) (G := G) (H := H) (ints_isS ns)
    rw [ints_sv] at this
    exact this
  have fin : ∀ s, Scr ns s → Df K noA H (.ref a) s → FS K [.fz] .fz F [.ref a] H Q E := fun s hs d => by
    refine ⟨rfl, noA, fun _ => [], [s], rfl, ⟨fun i t e => ?_, fun _ _ => rfl, fun _ => List.nodup_nil, fun _ _ _ _ z => absurd z List.not_mem_nil, fun _ _ z => absurd z List.not_mem_nil, fun _ z => z.elim, Nat.le_refl _, List.nodup_nil, fun _ _ z => absurd z List.not_mem_nil, fun _ z => absurd z List.not_mem_nil, fun _ z => absurd z List.not_mem_nil⟩, ?_⟩
    · match i, e with
      | 0, e =>
        cases e
        refine ⟨.ref a, rfl, .inr (.fz (d.weak fun b z => ?_))⟩
        rcases z with (z | ⟨j, z⟩) | z
        · exact absurd z List.not_mem_nil
        · exact absurd z List.not_mem_nil
        · exact z
    · rw [h s hs]
      intro x H' Fm' F' fr o xt
      have := o.df
      rw [this.1.rp.bl]
      exact k H'
  rcases hS with r | ⟨o, its, n, h1, h2, h3, h4, h5, h6⟩
  · exact fin _ (.inl rfl) (.nd (fun z => z) r dv)
  · refine fin _ (.inr rfl) (.sc ⟨a, rfl, fun H' => ?_, ints_isS ns⟩)
    rw [ints_sv]
    exact .inr ⟨o, its, n, h1, h2, h3, h4, h5, h6⟩
theorem scr_len {ns : List Int} {s : T} (h : Scr ns s) : lenT [s] = some (.int ns.length) := by
  rcases h with rfl | rfl
  · rw [o_len_l, List.length_map]
  · show some (T.int ((ns.map T.int).length : Nat)) = _
    rw [List.length_map]
theorem scr_ix {ns : List Int} {s : T} {n : Nat} (h : Scr ns s) (hn : n < ns.length) : ixA [s, .int n] = some (.int ns[n]) := by
  have e : atI (ns.map T.int) (n : Int) = some (.int ns[n]) := by
    rw [atI_nat (by rw [List.length_map]; exact hn), List.getElem?_map, List.getElem?_eq_getElem hn]
    rfl
  rcases h with rfl | rfl
  · rw [o_ix_l, e]
  · show altT ixRA (altT ixD dgetD) [.clst (ns.map T.int), .int n] = _
    simp only [ap_alt, ixR, seqT, e, isS_i, if_true]
theorem scr_cut {ns : List Int} {s : T} {i : Int} (h : Scr ns s) : slL false true [s, .int i] = some (.lst (cutT (ns.map T.int) none (some i))) := by
  rcases h with rfl | rfl <;> rfl
end NQ
namespace NQ
open PySem L2
/-! ### one-step equations that the kernel need not unfold -/
section
variable {δ r : Dl} {f : Dl → Rs} {os : List Opd} {i j : Nat} {t u : T} {ts us : List T} {q : Qf} {qs : List Qf} {l : List (Nat ⊕ T)} {s : Sh} {ss : List Sh} {k : List (Option Nat)} {x y : Option T}
theorem rn0 : runs [] δ = some (.ok [], δ) := (rfl)
theorem rnV : runs (.var i :: os) δ = match dAt δ i with
    | none => none
    | some _ => match runs os δ with
      | none => none
      | some (.error e, δ') => some (.error e, δ')
      | some (.ok l, δ') => some (.ok (.inl i :: l), δ') := (rfl)
theorem rnE : runs (.val f :: os) δ = match f δ with
    | none => none
    | some (.error e, δ') => some (.error e, δ')
    | some (.ok t, δ1) => match runs os δ1 with
      | none => none
      | some (.error e, δ') => some (.error e, δ')
      | some (.ok l, δ') => some (.ok (.inr t :: l), δ') := (rfl)
theorem ev0 : evq [] δ = some [] := (rfl)
theorem evS : evq (q :: qs) δ = match q δ with
    | none => none
    | some t => match evq qs δ with
      | none => none
      | some ts => some (t :: ts) := (rfl)
theorem rs0 : res [] δ = some [] := (rfl)
theorem rsV : res (.inl i :: l) δ = match dAt δ i, res l δ with
    | some t, some ts => some (t :: ts)
    | _, _ => none := (rfl)
theorem rsE : res (.inr t :: l) δ = match res l δ with
    | some ts => some (t :: ts)
    | none => none := (rfl)
theorem sk0 : skO [] = [] := (rfl)
theorem skV : skO (.var i :: os) = some i :: skO os := (rfl)
theorem skE : skO (.val f :: os) = none :: skO os := (rfl)
theorem wb0 : wb [] k us δ = δ := by cases k <;> rfl
theorem wbV : wb (s :: ss) (some i :: k) (t :: ts) δ = wb ss k ts (if s.isO then δ.set i (some t) else δ) := (rfl)
theorem wbE : wb (s :: ss) (none :: k) (t :: ts) δ = wb ss k ts δ := by cases s <;> rfl
theorem fin0 : fin [] [] δ = some [] := by cases δ <;> rfl
theorem finS : fin (s :: ss) (t :: ts) (x :: δ) = match fin ss ts δ with
    | none => none
    | some l => if s.isO then (match x with | some u => some (u :: l) | none => none) else some (t :: l) := (rfl)
theorem isO_fz : Sh.isO .fz = false := (rfl)
theorem isO_vw : Sh.isO .vw = false := (rfl)
theorem isO_all : Sh.isO (.all s) = true := (rfl)
theorem isO_opt : Sh.isO (.opt s) = true := (rfl)
theorem isO_flds {d : List (Str × Sh)} : Sh.isO (.flds d) = true := (rfl)
theorem isO_row : Sh.isO (.row ss) = true := (rfl)
theorem nil_fz : Sh.nilOk .fz = true := (rfl)
theorem nil_opt : Sh.nilOk (.opt s) = true := (rfl)
theorem wp0 : wipeD δ [] = δ := (rfl)
theorem wpS {vs : List Nat} : wipeD δ (i :: vs) = (wipeD δ vs).set i none := (rfl)
theorem st0 {α : Type} {a b : α} {l : List α} : (a :: l).set 0 b = b :: l := (rfl)
theorem stS {α : Type} {a b : α} {l : List α} {n : Nat} : (a :: l).set (n + 1) b = a :: l.set n b := (rfl)
theorem mp0 {α β : Type} {g : α → β} : [].map g = [] := (rfl)
theorem mpS {α β : Type} {g : α → β} {a : α} {l : List α} : (a :: l).map g = g a :: l.map g := (rfl)
theorem ap0 {α : Type} {l : List α} : [] ++ l = l := (rfl)
theorem apS {α : Type} {a : α} {l m : List α} : a :: l ++ m = a :: (l ++ m) := (rfl)
theorem fl0 {α : Type} : ([] : List (List α)).flatten = [] := (rfl)
theorem flS {α : Type} {l : List α} {m : List (List α)} : (l :: m).flatten = l ++ m.flatten := by rw [List.flatten_cons]
theorem rp0 {α : Type} {a : α} : List.replicate 0 a = [] := (rfl)
theorem rpS {α : Type} {a : α} {n : Nat} : List.replicate (n + 1) a = a :: List.replicate n a := (rfl)
theorem ln0 {α : Type} : ([] : List α).length = 0 := (rfl)
theorem lnS {α : Type} {a : α} {l : List α} : (a :: l).length = l.length + 1 := (rfl)
end
end NQ
namespace NQ
open PySem L2
/-! ### raise -/
def sRaise (c fld : Str) (f : Dl → Rs) : Sf := fun δ => match f δ with
  | none => none
  | some (.error e, δ') => some (.exc e, δ')
  | some (.ok t, δ') => some (.exc ⟨c, fld, t⟩, δ')
section
variable {X : Cx} {K : PySem.W.Frag} {c : Cf} {Wx : WX} {e : Expr} {f : Dl → Rs} {x fld : Str} {k : Nat} {p pos pos2 : Pos}
theorem ms_raise (T : NL.XC X.prog X.w X.K X.mg X.base k x fld (He.ga K x)) (tk : Takes X Wx) (hr : Room (k + 1) X.A) (he : PE X e (TF K c.sh Wx f)) (hc : X.calm = true := by rfl) (hg : Gl X x := by rfl) (hdb : (x == ("__debug__" : Str)) = false := by decide)
    (hst : starEach [e] X.env = (false, eval e X.env) :: starEach [] X.env := by rfl) (hpl : (backTo pos (starEach [] X.env)).any (·.1) = false := by rfl) :
    PS X (.Raise (some (.Call (.Name x p) [e] [] pos)) none pos2) (SF K c Wx (sRaise x fld f)) := ps_imp (NL.q_raise T tk hr (pa_cons he pa_nil hst) hc hg hdb hst hpl) fun D σ H ⟨W, Y, Fm, δ, fr, k⟩ => by
  refine ⟨W, Y, Fm, δ, fr, ?_⟩
  unfold sRaise at k
  cases q : f δ with
  | none => simp only [q] at k; exact k
  | some p =>
    obtain ⟨p, δ'⟩ := p
    cases p with
    | error er => simp only [q] at k; exact Kes.ke k
    | ok t =>
      simp only [q] at k
      intro y H' Fm' f' x' dy
      refine ⟨y, rfl, fun d hd => ?_⟩
      have e0 : EdP noA H' (upd H' d (.xd [(fld, y)])) := EdP.new hd
      exact k σ d y _ Fm' .refl (f'.ed0 e0) (x'.ed0 e0) ⟨fun z => f'.al d z hd, upd_same⟩ (dy.ed0 e0)
end
/-! ### match over texts -/
/-- the cases, by the text -/
abbrev Mf := Str → Sf
def mNil : Mf := fun _ => sNext
def mCs (ks : List Str) (F : Sf) (R : Mf) : Mf := fun a => if a ∈ ks then F else R a
def mCg (ks : List Str) (g : Dl → Rb) (F : Sf) (R : Mf) : Mf := fun a => if a ∈ ks then sIf g F (R a) else R a
def mAny (F : Sf) : Mf := fun _ => F
def sMatch (f : Dl → Rs) (M : Mf) : Sf := fun δ => match f δ with
  | none => none
  | some (.error e, δ') => some (.exc e, δ')
  | some (.ok (.str a), δ') => M a δ'
  | some (.ok _, _) => none
section
variable {X : Cx} {K : PySem.W.Frag} {c : Cf} {Wx : WX} {e : Expr} {f : Dl → Rs} {F : Sf} {M : Mf} {p : Pattern} {ks : List Str} {b : List Stmt} {r : List MatchCase} {pos : Pos}
theorem pmc_imp {cs : List MatchCase} {t t' : Str → TS} (h : NL.PMc X cs t) (i : ∀ a D σ H, t' a D σ H → t a D σ H) : NL.PMc X cs t' := fun first pins s σ H D a k I q => h first pins s σ H D a k I (i a D σ H q)
def SM (K : PySem.W.Frag) (c : Cf) (Wx : WX) (M : Mf) : Str → TS := fun a => SF K c Wx (M a)
theorem mm_nil : NL.PMc X [] (SM K c Wx mNil) := pmc_imp NL.pmc_nil fun a D σ H ⟨W, Y, Fm, δ, fr, k⟩ => k σ H Fm .refl fr .refl
theorem mm_cons (hp : NL.PPat X p ks) (hb : PSs X b (SF K c Wx F)) (hr : NL.PMc X r (SM K c Wx M)) : NL.PMc X (⟨p, none, b⟩ :: r) (SM K c Wx (mCs ks F M)) := pmc_imp (NL.pmc_cons hp hb hr) fun a D σ H h => by
  unfold NL.tMcs
  unfold SM mCs at h
  by_cases q : a ∈ ks
  · rw [decide_eq_true q, if_pos rfl]; rw [if_pos q] at h; exact h
  · rw [decide_eq_false q, if_neg Bool.false_ne_true]; rw [if_neg q] at h; exact h
theorem mm_consG {g : Expr} {gf : Dl → Rb} (hp : NL.PPat X p ks) (hg : PT X g (TFT K c.sh Wx gf)) (hb : PSs X b (SF K c Wx F)) (hr : NL.PMc X r (SM K c Wx M)) : NL.PMc X (⟨p, some g, b⟩ :: r) (SM K c Wx (mCg ks gf F M)) := pmc_imp (NL.pmc_consG hp hg hb hr) fun a D σ H h => by
  unfold NL.tMcg
  unfold SM mCg at h
  by_cases q : a ∈ ks
  · rw [decide_eq_true q, if_pos rfl]
    rw [if_pos q] at h
    obtain ⟨W, Y, Fm, δ, fr, k⟩ := h
    refine ⟨W, Y, Fm, δ, fr, ?_⟩
    unfold sIf at k
    cases q : gf δ with
    | none => simp only [q] at k; exact k
    | some p =>
      obtain ⟨p, δ'⟩ := p
      cases p with
      | error er => simp only [q] at k; exact Kes.ke k
      | ok b =>
        cases b with
        | true => simp only [q] at k; exact fun H' Fm' f' x' => iteT ⟨W, Y, Fm', δ', f', k.shift .refl x'⟩
        | false => simp only [q] at k; exact fun H' Fm' f' x' => iteF ⟨W, Y, Fm', δ', f', k.shift .refl x'⟩
  · rw [decide_eq_false q, if_neg Bool.false_ne_true]; rw [if_neg q] at h; exact h
theorem mm_any (hb : PSs X b (SF K c Wx F)) : NL.PMc X [⟨.MatchAs none none pos, none, b⟩] (SM K c Wx (mAny F)) := pmc_imp (NL.pmc_any hb) fun a D σ H h => h
theorem ms_match {cs : List MatchCase} (he : PE X e (TF K c.sh Wx f)) (hc : NL.PMc X cs (SM K c Wx M)) : PS X (.Match e cs pos) (SF K c Wx (sMatch f M)) := ps_imp (NL.ps_match he hc) fun D σ H ⟨W, Y, Fm, δ, fr, k⟩ => by
  refine ⟨W, Y, Fm, δ, fr, ?_⟩
  unfold sMatch at k
  cases q : f δ with
  | none => simp only [q] at k; exact k
  | some p =>
    obtain ⟨p, δ'⟩ := p
    cases p with
    | error er => simp only [q] at k; exact Kes.ke k
    | ok t =>
      cases t with
      | str a =>
        simp only [q] at k
        intro y H' Fm' f' x' dy
        exact ⟨a, dy.rp.str.1, W, Y, Fm', δ', f', k.shift .refl x'⟩
      | _ => simp only [q] at k; exact k.elim
end
end NQ
namespace NQ
open PySem L2
/-! ### try: body, except x as n: suite; except x: suite -/
def Cf.xcAt (c : Cf) (i : Nat) (a d : Addr) (cl fl : Str) : Cf := { c with sh := fun j => if j = i then .xc a d cl fl else c.sh j }
/-- which classes of exceptions are of the class c -/
def ExT (K : PySem.W.Frag) (c : Value) : List (Str × Bool) → Prop
  | [] => True
  | (x, b) :: r => PySem.W.exmOne K (.ref (He.ga K x)) c = some b ∧ ExT K c r
theorem ExT.at {K : PySem.W.Frag} {c : Value} : ∀ {l : List (Str × Bool)} {x : Str} {b : Bool}, ExT K c l → l.lookup x = some b → PySem.W.exmOne K (.ref (He.ga K x)) c = some b
  | [], _, _, _, h => by simp at h
  | (y, d) :: r, x, b, ⟨h1, h2⟩, e => by
    rw [List.lookup_cons] at e
    split at e
    · rename_i q
      cases e
      rw [eq_of_beq q]
      exact h1
    · exact ExT.at h2 e
def sTryAs (m : List (Str × Bool)) (i : Nat) (F : Sf) (G : Xn → Sf) : Sf := fun δ => match F δ with
  | some (.exc e, δ') => match m.lookup e.cls with
    | some true => if i < δ'.length then (match G e (δ'.set i (some e.val)) with
      | some (.exc _, _) => none
      | some (fl, δ2) => some (fl, δ2.set i none)
      | none => none) else none
    | some false => some (.exc e, δ')
    | none => none
  | r => r
def sTry (m : List (Str × Bool)) (F : Sf) (G : Sf) : Sf := fun δ => match F δ with
  | some (.exc e, δ') => match m.lookup e.cls with
    | some true => (match G δ' with
      | some (.exc _, _) => none
      | r => r)
    | some false => some (.exc e, δ')
    | none => none
  | r => r
section
variable {X : Cx} {K : PySem.W.Frag} {c : Cf} {Wx : WX} {F : Sf} {G : Xn → Sf} {m : List (Str × Bool)} {i : Nat} {x n : Str} {cv : Value} {body suite : List Stmt} {b₀ : Stmt} {np pos pos' : Pos}
theorem ms_tryAs (i : Nat) (hN : X.N.Nodup) (hm : ExT X.K cv m) (hc : Names X x cv) (tk : Takes X Wx) (hs : X.stack = X.env :: X.outer := by rfl) (hf : X.env.frame = some X.env.locals := by rfl) (hi : X.N[i]? = some n := by rfl) (hln : X.env.kindOf n = some .local := by rfl)
    (hb : ∀ (W : WX) (pn : List (Addr × Obj)) (xe : Value → Shared → Prop), Takes (X.tr pn xe) W → PassesOwn (model X.prog X.w) X.A X.env xe → PSs (X.tr pn xe) body (SF K c W F))
    (hsu : ∀ (a d : Addr) (oe : Obj) (e : Xn) (pn : List (Addr × Obj)), Zc (.ref (He.ga K e.cls)) (some d) oe → (∃ vs, oe.data = .fields vs) → PSs (X.suite a ((a, oe) :: pn)) (b₀ :: suite) (SF K (c.xcAt i a d e.cls e.fld) (fun _ _ _ _ => False) (G e)))
    (hsh : c.sh i = .fz := by rfl) (hp : c.pr i = false := by rfl) (hK : X.K = K := by rfl) :
    PS X (.Try body [.ExceptHandler (some (.Name x np)) (some n) (b₀ :: suite) pos'] [] [] pos) (SF K c Wx (sTryAs m i F G)) := by
  subst hK
  refine ps_imp (ps_try_as (i := i) (c := cv) (tb := fun W => SF X.K c W F) (ts := fun a cls dd => fun D σ H => ∃ (d : Addr) (e : Xn), cls = .ref (He.ga X.K e.cls) ∧ dd = some d ∧ SF X.K (c.xcAt i a d e.cls e.fld) (fun _ _ _ _ => False) (G e) D σ H) (Wout := Wx) hs hf hN hi hln hc tk hb ?_) ?_
  · intro a oe cls dd pn hz hv
    refine ⟨fun pins s σ H D I h => ?_⟩
    obtain ⟨d, e, rfl, rfl, h⟩ := h
    exact (hsu a d oe e pn hz hv).run pins s σ H D I h
  · intro D σ H ⟨W, Y, Fm, δ, fr, k⟩
    refine ⟨W, Y, Fm, δ, fr, ?_⟩
    unfold sTryAs at k
    cases q : F δ with
    | none => simp only [q] at k; exact k
    | some p =>
      obtain ⟨p, δ'⟩ := p
      cases p with
      | nx => simp only [q] at k; exact k
      | brk => simp only [q] at k; exact k
      | cont => simp only [q] at k; exact k
      | ret t => simp only [q] at k; exact k
      | exc e =>
        simp only [q] at k
        intro σ' d v H' Fm' kp f' x' hd dv
        cases q2 : m.lookup e.cls with
        | none => simp only [q2] at k; exact k.elim
        | some b =>
          refine ⟨b, hm.at q2, fun hb1 a ha => ?_, fun hb0 => ?_⟩
          · subst hb1
            simp only [q2] at k
            split at k
            · rename_i hil
              have hi0 : Fm' i = [] := f'.fz0 hsh
              have hl : i < σ'.length := Nat.lt_of_lt_of_le hil f'.len
              have f1 : Fr X.K (c.xcAt i a d e.cls e.fld).sh W Y Fm' H' (σ'.set i (some (.ref a))) (δ'.set i (some e.val)) := by
                have g := (f'.drop hi0).resh (i := i) (sh' := (c.xcAt i a d e.cls e.fld).sh) (fun j z => if_neg z) dAt_set_none
                have g2 := g.set (i := i) (v := .ref a) (t := e.val) hi0 (.inl (.inr ⟨rfl, a, d, e.cls, e.fld, v, if_pos rfl, rfl, hd.1, hd.2, dv⟩))
                rw [List.set_set] at g2
                exact g2
              refine ⟨d, e, rfl, rfl, W, Y, Fm', _, f1, ?_⟩
              have kp1 : Kp c σ (σ'.set i (some (.ref a))) := kp.tr (Kp.set hp)
              have back : ∀ {Y' : List Addr} {Fm2 : Nat → List Addr} {H2 : Hp} {σ2 : L2.St} {δ2 : Dl}, Fr X.K (c.xcAt i a d e.cls e.fld).sh W Y' Fm2 H2 σ2 δ2 → Fr X.K c.sh W Y' Fm2 H2 σ2 (δ2.set i none) := fun f =>
                (f.drop (f.xc0 (i := i) (if_pos rfl))).resh (i := i) (fun j z => (if_neg z).symm) dAt_set_none
              have sn : ∀ {Y' : List Addr} {Fm2 : Nat → List Addr} {H2 : Hp} {σ2 : L2.St} {δ2 : Dl}, Fr X.K c.sh W Y' Fm2 H2 σ2 (δ2.set i none) → Fr X.K c.sh W Y' Fm2 H2 (σ2.set i none) (δ2.set i none) := fun f => by
                refine { f with rel := fun j t z => ?_, len := by have := f.len; simp only [List.length_set] at this ⊢; exact this }
                have : j ≠ i := fun w => by rw [w, dAt_set_none] at z; cases z
                obtain ⟨u, r1, r2⟩ := f.rel j t z
                exact ⟨u, by rw [List.getElem?_set_ne (fun w => this w.symm)]; exact r1, r2⟩
              have kpx : ∀ {σ2 : L2.St}, Kp (c.xcAt i a d e.cls e.fld) (σ'.set i (some (.ref a))) σ2 → Kp c σ σ2 := fun z => kp1.tr z
              cases q3 : G e (δ'.set i (some e.val)) with
              | none => simp only [q3] at k; exact k
              | some p =>
                obtain ⟨fl, δ2⟩ := p
                simp only [q3] at k
                cases fl with
                | nx => exact fun σ2 H2 Fm2 kp2 f2 x2 => k _ H2 Fm2 ((kpx kp2).tr (Kp.set hp)) (sn (back f2)) (x'.tr x2)
                | brk => exact fun σ2 H2 Fm2 kp2 f2 x2 => k _ H2 Fm2 ((kpx kp2).tr (Kp.set hp)) (sn (back f2)) (x'.tr x2)
                | cont => exact fun σ2 H2 Fm2 kp2 f2 x2 => k _ H2 Fm2 ((kpx kp2).tr (Kp.set hp)) (sn (back f2)) (x'.tr x2)
                | ret t => exact fun y σ2 H2 Fm2 F2 kp2 f2 o2 x2 => k y σ2 H2 Fm2 F2 (kpx kp2) (back f2) o2 (x'.tr x2)
                | exc e2 => exact k.elim
            · exact k.elim
          · subst hb0
            simp only [q2] at k
            exact k σ' d v H' Fm' kp f' x' hd dv
theorem ms_try {G : Sf} (hm : ExT X.K cv m) (hc : Names X x cv) (tk : Takes X Wx) (hs : X.stack = X.env :: X.outer := by rfl) (hf : X.env.frame = some X.env.locals := by rfl)
    (hb : ∀ (W : WX) (pn : List (Addr × Obj)) (xe : Value → Shared → Prop), Takes (X.tr pn xe) W → PassesOwn (model X.prog X.w) X.A X.env xe → PSs (X.tr pn xe) body (SF K c W F))
    (hsu : ∀ (a : Addr) (oe : Obj) (pn : List (Addr × Obj)), PSs (X.suite a ((a, oe) :: pn)) (b₀ :: suite) (SF K c (fun _ _ _ _ => False) G)) (hK : X.K = K := by rfl) :
    PS X (.Try body [.ExceptHandler (some (.Name x np)) none (b₀ :: suite) pos'] [] [] pos) (SF K c Wx (sTry m F G)) := by
  subst hK
  refine ps_imp (ps_try_only (c := cv) (tb := fun W => SF X.K c W F) (ts := fun _ _ _ => SF X.K c (fun _ _ _ _ => False) G) (Wout := Wx) hs hf hc tk hb fun a oe cls dd pn hz hv => hsu a oe pn) ?_
  intro D σ H ⟨W, Y, Fm, δ, fr, k⟩
  refine ⟨W, Y, Fm, δ, fr, ?_⟩
  unfold sTry at k
  cases q : F δ with
  | none => simp only [q] at k; exact k
  | some p =>
    obtain ⟨p, δ'⟩ := p
    cases p with
    | nx => simp only [q] at k; exact k
    | brk => simp only [q] at k; exact k
    | cont => simp only [q] at k; exact k
    | ret t => simp only [q] at k; exact k
    | exc e =>
      simp only [q] at k
      intro σ' d v H' Fm' kp f' x' hd dv
      cases q2 : m.lookup e.cls with
      | none => simp only [q2] at k; exact k.elim
      | some b =>
        refine ⟨b, hm.at q2, fun hb1 a ha => ?_, fun hb0 => ?_⟩
        · subst hb1
          simp only [q2] at k
          refine ⟨W, Y, Fm', δ', f', ?_⟩
          cases q3 : G δ' with
          | none => simp only [q3] at k; exact k
          | some p =>
            obtain ⟨fl, δ2⟩ := p
            simp only [q3] at k
            cases fl with
            | exc e2 => exact k.elim
            | nx => exact Kx.shift kp x' k
            | brk => exact Kx.shift kp x' k
            | cont => exact Kx.shift kp x' k
            | ret t => exact Kr.shift kp x' k
        · subst hb0
          simp only [q2] at k
          exact k σ' d v H' Fm' kp f' x' hd dv
/-! ### in the suite: e.f, isinstance(e, C) -/
variable {sh : Nat → Sh} {a d : Addr} {oe : Obj} {pn : List (Addr × Obj)} {cl fl : Str} {o : Expr}
theorem m_xf (i : Nat) (ho : PE (X.suite a ((a, oe) :: pn)) o (tVar i)) (hz : Zc (.ref (He.ga K cl)) (some d) oe) (hv : ∃ vs, oe.data = .fields vs) (hx : XfC K (He.ga K cl)) (hno : PySem.W.findIn K (.ref (He.ga K cl)) fl = some none) (hs : sh i = .xc a d cl fl := by rfl)
    (hb : attributeBase o fl X.env (eval o X.env) = eval o X.env := by rfl) (hK : X.K = K := by rfl) : PE (X.suite a ((a, oe) :: pn)) (.Attribute o fl pos) (TQ K sh .fz (eV i)) := pe_imp (NL.pe_xfD K hz hv ho hb hK) fun σ H Q ⟨W, Y, Fm, δ, t, fr, e1, k⟩ => by
  obtain ⟨v, h1, h2⟩ := fr.rel i t e1
  rw [hs] at h2
  obtain ⟨_, rfl, u, h3, h4⟩ := h2.xc
  exact ⟨_, h1, rfl, _, d, _, u, rfl, hx, hno, rfl, h3, by simp [List.lookup], k u H .refl h4⟩
end
end NQ
namespace NQ
open PySem L2
/-! ### walking through the pure functions: what comes of them, wished for -/
/-- a state that is to be written out -/
def Nm (X : Dl) (P : Dl → Prop) : Prop := P X
theorem nm_eq {X Y : Dl} {P : Dl → Prop} (e : X = Y) (z : P Y) : Nm X P := by subst e; exact z
def Is {α : Type} (t : T) (mk : α → T) (P : α → Prop) : Prop := ∃ k, t = mk k ∧ P k
theorem is_mk {α : Type} {k : α} {mk : α → T} {P : α → Prop} (z : P k) : Is (mk k) mk P := ⟨k, rfl, z⟩
def At (δ : Dl) (i : Nat) (P : T → Prop) : Prop := ∃ t, dAt δ i = some t ∧ P t
theorem at_mk {δ : Dl} {i : Nat} {t : T} {P : T → Prop} (e : dAt δ i = some t) (z : P t) : At δ i P := ⟨t, e, z⟩
def So {α : Type} (o : Option α) (P : α → Prop) : Prop := ∃ t, o = some t ∧ P t
theorem so_mk {α : Type} {o : Option α} {t : α} {P : α → Prop} (e : o = some t) (z : P t) : So o P := ⟨t, e, z⟩
def S2 {α β : Type} (o : Option (α × β)) (P : α → β → Prop) : Prop := ∃ t u, o = some (t, u) ∧ P t u
theorem s2_mk {α β : Type} {o : Option (α × β)} {t : α} {u : β} {P : α → β → Prop} (e : o = some (t, u)) (z : P t u) : S2 o P := ⟨t, u, e, z⟩
def Sd (c P : Prop) : Prop := c ∧ P
theorem sd_mk {c P : Prop} (h : c) (z : P) : Sd c P := ⟨h, z⟩
def Fn (ps : List Sh) (ts : List T) (δ : Dl) (P : List T → Prop) : Prop := ∃ l, fin ps ts δ = some l ∧ P l
theorem fn_mk {ps : List Sh} {ts : List T} {δ : Dl} {l : List T} {P : List T → Prop} (e : fin ps ts δ = some l) (z : P l) : Fn ps ts δ P := ⟨l, e, z⟩
def Ws (r : Ss) (N B C : Dl → Prop) (R : T → Dl → Prop) (E : Xn → Dl → Prop) : Prop := match r with
  | none => False
  | some (.nx, δ) => N δ
  | some (.brk, δ) => B δ
  | some (.cont, δ) => C δ
  | some (.ret t, δ) => R t δ
  | some (.exc e, δ) => E e δ
def We (r : Rs) (Q : T → Dl → Prop) (E : Xn → Dl → Prop) : Prop := match r with
  | none => False
  | some (.ok t, δ) => Q t δ
  | some (.error e, δ) => E e δ
def Wq (r : Option T) (Q : T → Prop) : Prop := match r with
  | none => False
  | some t => Q t
def Wb (r : Rb) (Q : Bool → Dl → Prop) (E : Xn → Dl → Prop) : Prop := match r with
  | none => False
  | some (.ok t, δ) => Q t δ
  | some (.error e, δ) => E e δ
def Wt (r : Option Bool) (Q : Bool → Prop) : Prop := match r with
  | none => False
  | some t => Q t
def Wl (r : Option (List T)) (Q : List T → Prop) : Prop := match r with
  | none => False
  | some t => Q t
def Wa (os : List Opd) (δ : Dl) (Q : List T → Dl → Prop) (E : Xn → Dl → Prop) : Prop := match runs os δ with
  | none => False
  | some (.error e, δ') => E e δ'
  | some (.ok l, δ') => match res l δ' with
    | none => False
    | some ts => Q ts δ'
def Wi (r : Option (Except Xn (List T) × Dl)) (Q : List T → Dl → Prop) (E : Xn → Dl → Prop) : Prop := match r with
  | none => False
  | some (.ok t, δ) => Q t δ
  | some (.error e, δ) => E e δ
def Wd (r : Option Dl) (Q : Dl → Prop) : Prop := match r with
  | none => False
  | some t => Q t
def Wf (r : Fo) (R : T → List T → Prop) (E : Xn → List T → Prop) : Prop := match r with
  | none => False
  | some (.ret t, l) => R t l
  | some (.exc e, l) => E e l
theorem wf_eq {r : Fo} {t : T} {l : List T} {R : T → List T → Prop} {E : Xn → List T → Prop} (e : r = some (.ret t, l)) (h : R t l) : Wf r R E := by rw [e]; exact h
theorem wf_eqX {r : Fo} {x : Xn} {l : List T} {R : T → List T → Prop} {E : Xn → List T → Prop} (e : r = some (.exc x, l)) (h : E x l) : Wf r R E := by rw [e]; exact h
theorem of_wf {r : Fo} {t : T} {l : List T} (h : Wf r (fun u m => u = t ∧ m = l) fun _ _ => False) : r = some (.ret t, l) := by
  unfold Wf at h
  split at h
  · exact h.elim
  · obtain ⟨rfl, rfl⟩ := h; rfl
  · exact h.elim
theorem of_wfX {r : Fo} {t : Xn} {l : List T} (h : Wf r (fun _ _ => False) (fun u m => u = t ∧ m = l)) : r = some (.exc t, l) := by
  unfold Wf at h
  split at h
  · exact h.elim
  · exact h.elim
  · obtain ⟨rfl, rfl⟩ := h; rfl
theorem wf_ex {r : Fo} {P : T → List T → Prop} (h : Wf r P fun _ _ => False) : ∃ t l, r = some (.ret t, l) ∧ P t l := by
  unfold Wf at h
  split at h
  · exact h.elim
  · exact ⟨_, _, rfl, h⟩
  · exact h.elim
theorem wf_or {r : Fo} {P : T → List T → Prop} {P2 : Xn → List T → Prop} (h : Wf r P P2) : (∃ t l, r = some (.ret t, l) ∧ P t l) ∨ ∃ e l, r = some (.exc e, l) ∧ P2 e l := by
  unfold Wf at h
  split at h
  · exact h.elim
  · exact .inl ⟨_, _, rfl, h⟩
  · exact .inr ⟨_, _, rfl, h⟩
theorem we_ex {r : Rs} {P : T → Dl → Prop} (h : We r P fun _ _ => False) : ∃ t l, r = some (.ok t, l) ∧ P t l := by
  unfold We at h
  split at h
  · exact h.elim
  · exact ⟨_, _, rfl, h⟩
  · exact h.elim
theorem we_c {r : Rs} {Q : T → Dl → Prop} {E : Xn → Dl → Prop} (h : We r Q E) : (∃ t δ, r = some (.ok t, δ) ∧ Q t δ) ∨ ∃ e δ, r = some (.error e, δ) ∧ E e δ := by
  unfold We at h
  split at h
  · exact h.elim
  · exact .inl ⟨_, _, rfl, h⟩
  · exact .inr ⟨_, _, rfl, h⟩
theorem wb_c {r : Rb} {Q : Bool → Dl → Prop} {E : Xn → Dl → Prop} (h : Wb r Q E) : (∃ t δ, r = some (.ok t, δ) ∧ Q t δ) ∨ ∃ e δ, r = some (.error e, δ) ∧ E e δ := by
  unfold Wb at h
  split at h
  · exact h.elim
  · exact .inl ⟨_, _, rfl, h⟩
  · exact .inr ⟨_, _, rfl, h⟩
theorem wi_c {r : Option (Except Xn (List T) × Dl)} {Q : List T → Dl → Prop} {E : Xn → Dl → Prop} (h : Wi r Q E) : (∃ t δ, r = some (.ok t, δ) ∧ Q t δ) ∨ ∃ e δ, r = some (.error e, δ) ∧ E e δ := by
  unfold Wi at h
  split at h
  · exact h.elim
  · exact .inl ⟨_, _, rfl, h⟩
  · exact .inr ⟨_, _, rfl, h⟩
theorem wa_c {os : List Opd} {δ : Dl} {Q : List T → Dl → Prop} {E : Xn → Dl → Prop} (h : Wa os δ Q E) : (∃ l δ' ts, runs os δ = some (.ok l, δ') ∧ res l δ' = some ts ∧ Q ts δ') ∨ ∃ e δ', runs os δ = some (.error e, δ') ∧ E e δ' := by
  unfold Wa at h
  split at h
  · exact h.elim
  · rename_i e; exact .inr ⟨_, _, e, h⟩
  · rename_i e
    split at h
    · exact h.elim
    · rename_i e2; exact .inl ⟨_, _, _, e, e2, h⟩
theorem wt_ex {r : Option Bool} {P : Bool → Prop} (h : Wt r P) : ∃ t, r = some t ∧ P t := by
  cases r with
  | none => exact h.elim
  | some t => exact ⟨t, rfl, h⟩
theorem wl_ex {r : Option (List T)} {P : List T → Prop} (h : Wl r P) : ∃ t, r = some t ∧ P t := by
  cases r with
  | none => exact h.elim
  | some t => exact ⟨t, rfl, h⟩
theorem wd_ex {r : Option Dl} {P : Dl → Prop} (h : Wd r P) : ∃ t, r = some t ∧ P t := by
  cases r with
  | none => exact h.elim
  | some t => exact ⟨t, rfl, h⟩
theorem ws_c {r : Ss} {N B C : Dl → Prop} {R : T → Dl → Prop} {E : Xn → Dl → Prop} (h : Ws r N B C R E) : ∃ f δ, r = some (f, δ) ∧ Ws (some (f, δ)) N B C R E := by
  cases r with
  | none => exact h.elim
  | some p => exact ⟨p.1, p.2, rfl, h⟩
theorem we_eq {r : Rs} {t : T} {l : Dl} {R : T → Dl → Prop} {E : Xn → Dl → Prop} (e : r = some (.ok t, l)) (h : R t l) : We r R E := by rw [e]; exact h
theorem wq_eq {r : Option T} {t : T} {R : T → Prop} (e : r = some t) (h : R t) : Wq r R := by rw [e]; exact h
theorem wq_ex {r : Option T} {P : T → Prop} (h : Wq r P) : ∃ t, r = some t ∧ P t := by
  cases r with
  | none => exact h.elim
  | some t => exact ⟨t, rfl, h⟩
theorem ws_eq {r : Ss} {f : Fl} {δ : Dl} {N B C : Dl → Prop} {R : T → Dl → Prop} {E : Xn → Dl → Prop} (e : r = some (f, δ)) (h : Ws (some (f, δ)) N B C R E) : Ws r N B C R E := by rw [e]; exact h
theorem ws_nx {r : Ss} {P : Dl → Prop} (h : Ws r P (fun _ => False) (fun _ => False) (fun _ _ => False) fun _ _ => False) : ∃ δ, r = some (.nx, δ) ∧ P δ := by
  unfold Ws at h
  split at h <;> first | exact h.elim | exact ⟨_, rfl, h⟩
section
variable {F G : Sf} {f g h : Dl → Rs} {u v w : Qf} {a b : Qb} {t s : Dl → Rb} {δ δ2 : Dl} {i : Nat} {op op' : Op} {fs : List Qf} {os : List Opd} {x y : T} {ts : List T} {gp : Gf} {gs : Gfs} {its : Il}
variable {N B C : Dl → Prop} {R : T → Dl → Prop} {E : Xn → Dl → Prop} {Q : T → Dl → Prop} {q : T → Prop} {QB : Bool → Dl → Prop} {qb : Bool → Prop} {QL : List T → Dl → Prop} {ql : List T → Prop} {QD : Dl → Prop}
/-! statements -/
theorem ws_seq (z : Ws (F δ) (fun δ' => Ws (G δ') N B C R E) B C R E) : Ws (sSeq F G δ) N B C R E := by
  unfold sSeq
  cases e : F δ with
  | none => rw [e] at z; exact z.elim
  | some p =>
    obtain ⟨fl, δ'⟩ := p
    rw [e] at z
    cases fl <;> exact z
theorem ws_next (z : N δ) : Ws (sNext δ) N B C R E := z
theorem ws_brk (z : B δ) : Ws (sBrk δ) N B C R E := z
theorem ws_cont (z : C δ) : Ws (sCont δ) N B C R E := z
theorem ws_set (z : We (f δ) (fun t δ' => Nm (δ'.set i (some t)) N) E) : Ws (sSet i f δ) N B C R E := by
  rw [ap_set]
  rcases we_c z with ⟨t0, d0, e0, z⟩ | ⟨t0, d0, e0, z⟩ <;> simp only [e0]
  · exact z
  · exact z
theorem ws_setN (z : We (f δ) (fun t δ' => Sd (i < δ'.length) (Nm (δ'.set i (some t)) N)) E) : Ws (sSetN i f δ) N B C R E := by
  rw [ap_setN]
  rcases we_c z with ⟨t0, d0, e0, z⟩ | ⟨t0, d0, e0, z⟩ <;> simp only [e0]
  · simp only [z.1, if_true]; exact z.2
  · exact z
theorem ws_drop (z : We (f δ) (fun t δ' => N δ') E) : Ws (sDrop f δ) N B C R E := by
  rw [ap_drop]
  rcases we_c z with ⟨t0, d0, e0, z⟩ | ⟨t0, d0, e0, z⟩ <;> simp only [e0]
  · exact z
  · exact z
theorem ws_ret (z : We (f δ) (fun t δ' => R t δ') E) : Ws (sRet f δ) N B C R E := by
  rw [ap_ret]
  rcases we_c z with ⟨t0, d0, e0, z⟩ | ⟨t0, d0, e0, z⟩ <;> simp only [e0]
  · exact z
  · exact z
theorem ws_retV (e : dAt δ i = some x) (z : Nm (δ.set i none) (R x)) : Ws (sRetV i δ) N B C R E := by
  rw [ap_retV, e]; exact z
theorem ws_retN (z : R .non δ) : Ws (sRetN δ) N B C R E := z
theorem ws_if (z : Wb (t δ) (fun c δ' => if c = true then Ws (F δ') N B C R E else Ws (G δ') N B C R E) E) : Ws (sIf t F G δ) N B C R E := by
  rw [ap_if]
  rcases wb_c z with ⟨t0, d0, e0, z⟩ | ⟨t0, d0, e0, z⟩ <;> simp only [e0]
  · cases t0 <;> exact z
  · exact z
theorem ws_for (z : Wi (its δ) (fun ts δ' => Ws (forM ts gp F δ') N B C R E) E) : Ws (sFor its gp F δ) N B C R E := by
  rw [ap_for]
  rcases wi_c z with ⟨t0, d0, e0, z⟩ | ⟨t0, d0, e0, z⟩ <;> simp only [e0]
  · exact z
  · exact z
theorem ws_setIx (z : We (f δ) (fun w δ' => Wq (u δ') fun k => Is k T.int fun n => At δ' i fun x => Is x T.lst fun us => So (setAt us n w) fun us' => Nm (δ'.set i (some (.lst us'))) N) E) : Ws (sSetIx i u f δ) N B C R E := by
  rw [ap_setIx]
  rcases we_c z with ⟨t0, d0, e0, z⟩ | ⟨t0, d0, e0, z⟩ <;> simp only [e0]
  · obtain ⟨k, e1, n, rfl, x, e2, us, rfl, us', e3, z⟩ := wq_ex z
    simp only [e1, e2, e3]; exact z
  · exact z
theorem ws_aug (e : dAt δ i = some x) (z : We (f δ) (fun y δ' => Wq (op [x, y]) fun c => Nm (δ'.set i (some c)) N) E) : Ws (sAug i op f δ) N B C R E := by
  rw [ap_aug, e]
  rcases we_c z with ⟨t0, d0, e0, z⟩ | ⟨t0, d0, e0, z⟩ <;> simp only [e0]
  · obtain ⟨c, e1, z⟩ := wq_ex z
    simp only [e1]; exact z
  · exact z
theorem ws_asg (z : We (f δ) (fun t δ' => Wd (gp t δ') N) E) : Ws (sAsg f gp δ) N B C R E := by
  rw [ap_asg]
  rcases we_c z with ⟨t0, d0, e0, z⟩ | ⟨t0, d0, e0, z⟩ <;> simp only [e0]
  ·
    obtain ⟨c0, e0, z⟩ := wd_ex z
    simp only [e0]; exact z
  · exact z
theorem ws_frz (e : dAt δ i = some x) (z : Ws (F δ) (fun δ' => Nm (δ'.set i none) N) (fun δ' => Nm (δ'.set i none) B) (fun δ' => Nm (δ'.set i none) C) (fun t δ' => Nm (δ'.set i none) (R t)) (fun x δ' => Nm (δ'.set i none) (E x))) : Ws (sFrz i F δ) N B C R E := by
  unfold Nm at z
  try dsimp only at z
  rw [ap_frz, e]
  unfold Ws at z
  split at z
  · exact z.elim
  · rename_i e; simp only [e]; exact z
  · rename_i e; simp only [e]; exact z
  · rename_i e; simp only [e]; exact z
  · rename_i e; simp only [e]; exact z
  · rename_i e; simp only [e]; exact z
theorem ws_raise {c fl : Str} (z : We (f δ) (fun t δ' => E ⟨c, fl, t⟩ δ') E) : Ws (sRaise c fl f δ) N B C R E := by
  unfold sRaise
  rcases we_c z with ⟨t0, d0, e0, z⟩ | ⟨t0, d0, e0, z⟩ <;> simp only [e0]
  · exact z
  · exact z
theorem ws_match {M : Mf} (z : We (f δ) (fun t δ' => Is t T.str fun k => Ws (M k δ') N B C R E) E) : Ws (sMatch f M δ) N B C R E := by
  unfold sMatch
  rcases we_c z with ⟨t0, d0, e0, z⟩ | ⟨t0, d0, e0, z⟩ <;> simp only [e0]
  · obtain ⟨k, rfl, z⟩ := z; exact z
  · exact z
theorem ws_mNil {k : Str} (z : N δ) : Ws (mNil k δ) N B C R E := z
theorem ws_mAny {k : Str} (z : Ws (F δ) N B C R E) : Ws (mAny F k δ) N B C R E := z
theorem ws_mCs {k : Str} {ks : List Str} {M : Mf} (z : if decide (k ∈ ks) = true then Ws (F δ) N B C R E else Ws (M k δ) N B C R E) : Ws (mCs ks F M k δ) N B C R E := by
  unfold mCs
  by_cases h : k ∈ ks
  · rw [if_pos h]; rw [decide_eq_true h, if_pos rfl] at z; exact z
  · rw [if_neg h]; rw [decide_eq_false h, if_neg Bool.false_ne_true] at z; exact z
theorem ws_mCg {k : Str} {ks : List Str} {M : Mf} (z : if decide (k ∈ ks) = true then Ws (sIf t F (M k) δ) N B C R E else Ws (M k δ) N B C R E) : Ws (mCg ks t F M k δ) N B C R E := by
  unfold mCg
  by_cases h : k ∈ ks
  · rw [if_pos h]; rw [decide_eq_true h, if_pos rfl] at z; exact z
  · rw [if_neg h]; rw [decide_eq_false h, if_neg Bool.false_ne_true] at z; exact z
theorem ws_tryAs {m : List (Str × Bool)} {H : Xn → Sf} (z : Ws (F δ) N B C R fun e δ' => So (m.lookup e.cls) fun b => if b = true then Sd (i < δ'.length) (Nm (δ'.set i (some e.val)) fun δ2 => Ws (H e δ2) (fun δ2 => Nm (δ2.set i none) N) (fun δ2 => Nm (δ2.set i none) B) (fun δ2 => Nm (δ2.set i none) C) (fun t δ2 => Nm (δ2.set i none) (R t)) fun _ _ => False) else E e δ') : Ws (sTryAs m i F H δ) N B C R E := by
  unfold sTryAs
  cases e : F δ with
  | none => rw [e] at z; exact z.elim
  | some p =>
    obtain ⟨fl, δ'⟩ := p
    rw [e] at z
    cases fl with
    | exc er =>
      obtain ⟨b, h1, z⟩ := z
      cases b with
      | true =>
        obtain ⟨h2, z⟩ := z
        simp only [h1, h2, if_true]
        unfold Nm at z
        try dsimp only at z
        cases e2 : H er (δ'.set i (some er.val)) with
        | none => rw [e2] at z; exact z.elim
        | some p =>
          obtain ⟨fl, δ2⟩ := p
          rw [e2] at z
          cases fl <;> first | exact z | exact z.elim
      | false => simp only [h1]; exact z
    | nx => exact z
    | brk => exact z
    | cont => exact z
    | ret _ => exact z
theorem ws_try {m : List (Str × Bool)} {H : Sf} (z : Ws (F δ) N B C R fun e δ' => So (m.lookup e.cls) fun b => if b = true then Ws (H δ') N B C R fun _ _ => False else E e δ') : Ws (sTry m F H δ) N B C R E := by
  unfold sTry
  cases e : F δ with
  | none => rw [e] at z; exact z.elim
  | some p =>
    obtain ⟨fl, δ'⟩ := p
    rw [e] at z
    cases fl with
    | exc er =>
      obtain ⟨b, h1, z⟩ := z
      cases b with
      | true =>
        simp only [h1]
        have z : Ws (H δ') N B C R fun _ _ => False := z
        cases e2 : H δ' with
        | none => rw [e2] at z; exact z.elim
        | some p =>
          obtain ⟨fl, δ2⟩ := p
          rw [e2] at z
          cases fl <;> first | exact z | exact z.elim
      | false => simp only [h1]; exact z
    | nx => exact z
    | brk => exact z
    | cont => exact z
    | ret _ => exact z
/-! loops -/
theorem ws_forI (P : Nat → Dl → Prop) (h0 : P 0 δ) (hs : ∀ n x δ, ts[n]? = some x → P n δ → Wd (gp x δ) fun δ1 => Ws (F δ1) (P (n + 1)) N (P (n + 1)) R E) (he : ∀ δ, P ts.length δ → N δ) : Ws (forM ts gp F δ) N B C R E := by
  refine for_inv (P := P) (R := fun r => Ws r N B C R E) h0 (fun n x δ e p => ?_) fun δ p => he δ p
  have z := hs n x δ e p

  obtain ⟨c0, e0, z⟩ := wd_ex z
  refine ⟨c0, e0, ?_⟩
  obtain ⟨fl, δ2, e2, z⟩ := ws_c z
  cases fl with
  | nx => exact .inl ⟨δ2, .inl e2, z⟩
  | brk => exact .inr (.inl ⟨δ2, e2, z⟩)
  | cont => exact .inl ⟨δ2, .inr e2, z⟩
  | ret r => exact .inr (.inr (.inl ⟨r, δ2, e2, z⟩))
  | exc r => exact .inr (.inr (.inr ⟨r, δ2, e2, z⟩))
theorem ws_forNil (z : N δ) : Ws (forM [] gp F δ) N B C R E := z
theorem ws_forCons (z : Wd (gp x δ) fun δ1 => Ws (F δ1) (fun δ2 => Ws (forM ts gp F δ2) N B C R E) N (fun δ2 => Ws (forM ts gp F δ2) N B C R E) R E) : Ws (forM (x :: ts) gp F δ) N B C R E := by
  unfold forM
  obtain ⟨c0, e0, z⟩ := wd_ex z
  simp only [e0]
  obtain ⟨fl, δ2, e2, z⟩ := ws_c z
  simp only [e2]
  cases fl <;> exact z
theorem ws_while {n : Nat} (z : Wb (t δ) (fun c δ1 => if c = true then Ws (F δ1) (fun δ2 => Ws (whileM n t F δ2) N B C R E) N (fun δ2 => Ws (whileM n t F δ2) N B C R E) R E else N δ1) E) : Ws (whileM (n + 1) t F δ) N B C R E := by
  unfold whileM
  rcases wb_c z with ⟨t0, d0, e0, z⟩ | ⟨t0, d0, e0, z⟩ <;> simp only [e0]
  · cases t0
    · exact z
    · rw [if_pos rfl] at z
      obtain ⟨fl, δ2, e2, z⟩ := ws_c z
      simp only [e2]
      cases fl <;> exact z
  · exact z
/-! expressions -/
theorem we_qE (z : Wq (u δ) fun t => Q t δ) : We (qE u δ) Q E := by
  rw [ap_qE]
  obtain ⟨c0, e0, z⟩ := wq_ex z
  simp only [e0]
  exact z
theorem we_opn (z : Wa os δ (fun ts δ' => Wq (op ts) fun c => Q c δ') E) : We (opn op os δ) Q E := by
  rw [ap_opn]
  rcases wa_c z with ⟨l0, d0, ts0, e1, e2, z⟩ | ⟨t0, d0, e1, z⟩ <;> simp only [e1]
  rotate_left
  · exact z
  · simp only [e2]
    obtain ⟨c, e3, z⟩ := wq_ex z
    simp only [e3]; exact z
theorem we_opnc (z : Wa os δ (fun ts δ' => Wq (op ts) fun c => Q c δ') fun _ _ => False) : We (opnc op os δ) Q E := by
  rw [ap_opnc]
  rcases wa_c z with ⟨l0, d0, ts0, e1, e2, z⟩ | ⟨t0, d0, e1, z⟩ <;> simp only [e1]
  rotate_left
  · exact z.elim
  · simp only [e2]
    obtain ⟨c, e3, z⟩ := wq_ex z
    simp only [e3]; exact z
theorem we_disp {ks : List Key} (z : We (opn (dispT ks) os δ) Q E) : We (fDisp ks os δ) Q E := z
theorem we_call {ps : List Sh} {Ff : List T → Fo} (z : Wa os δ (fun ts δ' => Wf (Ff ts) (fun t l => Sd (l.length = ps.length) (Nm (wb ps (skO os) l δ') (Q t))) fun e l => Sd (l.length = ps.length) (Nm (wb ps (skO os) l δ') (E e))) E) : We (fCall ps Ff os δ) Q E := by
  rw [ap_call]
  rcases wa_c z with ⟨l0, d0, ts0, e1, e2, z⟩ | ⟨t0, d0, e1, z⟩
  · simp only [e1, e2]
    rcases wf_or z with ⟨t, l, e3, h, z⟩ | ⟨t, l, e3, h, z⟩
    · simp only [e3, h, if_true]; exact z
    · simp only [e3, h, if_true]; exact z
  · simp only [e1]; exact z
theorem we_app (z : At δ i fun x => Is x T.lst fun us0 => We (f δ) (fun t δ' => At δ' i fun x => Is x T.lst fun us => Sd (us.length < sizeLine) (Nm (δ'.set i (some (.lst (us ++ [t])))) (Q .non))) E) : We (fApp i f δ) Q E := by
  obtain ⟨_, e0, us0, rfl, z⟩ := z
  rw [ap_app, e0]
  rcases we_c z with ⟨t0, d0, e0, z⟩ | ⟨t0, d0, e0, z⟩ <;> simp only [e0]
  · obtain ⟨_, e1, us, rfl, h, z⟩ := z
    simp only [e1, h, if_true]; exact z
  · exact z
theorem we_if (z : Wb (t δ) (fun c δ' => if c = true then We (f δ') Q E else We (g δ') Q E) E) : We (ifE t f g δ) Q E := by
  rw [ap_ifE]
  rcases wb_c z with ⟨t0, d0, e0, z⟩ | ⟨t0, d0, e0, z⟩ <;> simp only [e0]
  · cases t0 <;> exact z
  · exact z
theorem we_andW (z : We (f δ) (fun t δ' => Wt (truW t) fun c => if c = true then We (g δ') Q E else Q t δ') E) : We (andW f g δ) Q E := by
  rw [ap_andW]
  rcases we_c z with ⟨t0, d0, e0, z⟩ | ⟨t0, d0, e0, z⟩ <;> simp only [e0]
  ·
    obtain ⟨c0, e0, z⟩ := wt_ex z
    simp only [e0]
    cases c0 <;> exact z
  · exact z
theorem we_orW (z : We (f δ) (fun t δ' => Wt (truW t) fun c => if c = true then Q t δ' else We (g δ') Q E) E) : We (orW f g δ) Q E := by
  rw [ap_orW]
  rcases we_c z with ⟨t0, d0, e0, z⟩ | ⟨t0, d0, e0, z⟩ <;> simp only [e0]
  ·
    obtain ⟨c0, e0, z⟩ := wt_ex z
    simp only [e0]
    cases c0 <;> exact z
  · exact z
theorem we_lc {vs : List Nat} (z : Wi (its δ) (fun ts δ' => Sd (ts.length < sizeLine) (Nm (wipeD δ' vs) fun δ3 => S2 (lcL gp t f vs ts δ3) fun us δ2 => Q (.lst us) δ2)) E) : We (lcE its gp t f vs δ) Q E := by
  rw [ap_lcE]
  rcases wi_c z with ⟨t0, d0, e0, z⟩ | ⟨t0, d0, e0, z⟩ <;> simp only [e0]
  · obtain ⟨h, us, δ2, e, z⟩ := z
    simp only [h, if_true, e]; exact z
  · exact z
/-- a comprehension's turns -/
theorem lc_walk {vs : List Nat} (P : Nat → List T → Dl → Prop) (h0 : P 0 [] δ) (hs : ∀ n x us δ, ts[n]? = some x → P n us δ → Wd (gp x δ) fun δ1 => Wb (t δ1) (fun c δ2 => if c = true then We (f δ2) (fun u δ3 => Nm (wipeD δ3 vs) (P (n + 1) (us ++ [u]))) (fun _ _ => False) else Nm (wipeD δ2 vs) (P (n + 1) us)) fun _ _ => False) : ∃ us δ', lcL gp t f vs ts δ = some (us, δ') ∧ P ts.length us δ' := by
  refine lc_all h0 fun n x us δ e p => ?_
  obtain ⟨δ1, e0, z⟩ := wd_ex (hs n x us δ e p)
  refine ⟨δ1, e0, ?_⟩
  rcases wb_c z with ⟨c, δ2, e2, z⟩ | ⟨t0, d0, e0, z⟩
  · cases c
    · exact .inr ⟨δ2, e2, z⟩
    · obtain ⟨u, δ3, e3, z⟩ := we_ex z
      exact .inl ⟨δ2, δ3, u, e2, e3, z⟩
  · exact z.elim
/-! operands -/
theorem wa_nil (z : QL [] δ) : Wa [] δ QL E := z
theorem wa_val (z : We (f δ) (fun t δ1 => Wa os δ1 (fun us δ' => QL (t :: us) δ') E) E) : Wa (.val f :: os) δ QL E := by
  unfold Wa
  rw [rnE]
  rcases we_c z with ⟨t0, d0, e0, z⟩ | ⟨t0, d0, e0, z⟩
  · simp only [e0]
    rcases wa_c z with ⟨l0, d1, ts0, e1, e2, z⟩ | ⟨x0, d1, e1, z⟩
    · simp only [e1, rsE, e2]; exact z
    · simp only [e1]; exact z
  · simp only [e0]; exact z
theorem wa_var (e : dAt δ i = some x) (z : Wa os δ (fun us δ' => At δ' i fun y => QL (y :: us) δ') E) : Wa (.var i :: os) δ QL E := by
  unfold Wa
  rw [rnV, e]
  rcases wa_c z with ⟨l0, d1, ts0, e1, e2, y, e3, z⟩ | ⟨x0, d1, e1, z⟩
  · simp only [e1, rsV, e2, e3]; exact z
  · simp only [e1]; exact z
theorem wl_nil (z : ql []) : Wl (evq [] δ) ql := z
theorem wl_cons (z : Wq (u δ) fun t => Wl (evq fs δ) fun us => ql (t :: us)) : Wl (evq (u :: fs) δ) ql := by
  rw [evS]
  obtain ⟨c0, e0, z⟩ := wq_ex z
  obtain ⟨c1, e1, z⟩ := wl_ex z
  simp only [e0, e1]; exact z
/-! quiet ones -/
theorem wq_opq (z : Wl (evq fs δ) fun ts => Wq (op ts) q) : Wq (opq op fs δ) q := by
  rw [ap_opq]
  obtain ⟨c0, e0, z⟩ := wl_ex z
  simp only [e0]
  exact z
theorem wq_eV (e : dAt δ i = some x) (z : q x) : Wq (eV i δ) q := by rw [ap_eV, e]; exact z
theorem wq_eC (z : q x) : Wq (eC x δ) q := z
theorem wq_eP {π : List Pt} (e : dAt δ i = some x) (e2 : getP x π = some y) (z : q y) : Wq (eP i π δ) q := by unfold eP; rw [e]; simp only [e2]; exact z
theorem wq_if (z : Wt (a δ) fun c => if c = true then Wq (u δ) q else Wq (v δ) q) : Wq (ifQ a u v δ) q := by
  rw [ap_ifQ]
  obtain ⟨c0, e0, z⟩ := wt_ex z
  simp only [e0]
  cases c0 <;> exact z
theorem wq_andV (z : Wq (u δ) fun t => Wt (truW t) fun c => if c = true then Wq (v δ) q else q t) : Wq (andV u v δ) q := by
  rw [ap_andV]
  obtain ⟨c0, e0, z⟩ := wq_ex z
  obtain ⟨c1, e1, z⟩ := wt_ex z
  simp only [e0, e1]
  cases c1 <;> exact z
theorem wq_orV (z : Wq (u δ) fun t => Wt (truW t) fun c => if c = true then q t else Wq (v δ) q) : Wq (orV u v δ) q := by
  rw [ap_orV]
  obtain ⟨c0, e0, z⟩ := wq_ex z
  obtain ⟨c1, e1, z⟩ := wt_ex z
  simp only [e0, e1]
  cases c1 <;> exact z
theorem wq_ch (z : Wq (u δ) fun x => Wq (v δ) fun y => Wq (op [x, y]) fun c => Is c T.bl fun k => if k = true then Wq (w δ) (fun z => Wq (op' [y, z]) q) else q (.bl false)) : Wq (chQ op op' u v w δ) q := by
  rw [ap_chQ]
  obtain ⟨x, e1, z⟩ := wq_ex z
  obtain ⟨y, e2, z⟩ := wq_ex z
  obtain ⟨c, e3, z⟩ := wq_ex z
  obtain ⟨k, rfl, z⟩ := z
  simp only [e1, e2, e3]
  cases k
  · exact z
  · rw [if_pos rfl] at z
    obtain ⟨r, e4, z⟩ := wq_ex z
    simp only [e4]; exact z
/-! tests -/
theorem wt_asB (z : Wq (u δ) fun t => Is t T.bl qb) : Wt (asB u δ) qb := by
  rw [ap_asB]
  obtain ⟨x, e1, c, rfl, z⟩ := wq_ex z
  simp only [e1]; exact z
theorem wt_asTru (z : Wq (u δ) fun t => Wt (truT t) qb) : Wt (asTru u δ) qb := by
  rw [ap_asTru]
  obtain ⟨x, e1, z⟩ := wq_ex z
  simp only [e1]; exact z
theorem wb_asBE (z : We (f δ) (fun t δ' => Is t T.bl fun c => QB c δ') E) : Wb (asBE f δ) QB E := by
  rw [ap_asBE]
  rcases we_c z with ⟨t0, d0, e0, z⟩ | ⟨t0, d0, e0, z⟩ <;> simp only [e0]
  · obtain ⟨c, rfl, z⟩ := z; exact z
  · exact z
theorem wb_asTruE (z : We (f δ) (fun t δ' => Wt (truT t) fun c => QB c δ') E) : Wb (asTruE f δ) QB E := by
  rw [ap_asTruE]
  rcases we_c z with ⟨t0, d0, e0, z⟩ | ⟨t0, d0, e0, z⟩ <;> simp only [e0]
  ·
    obtain ⟨c0, e0, z⟩ := wt_ex z
    simp only [e0]; exact z
  · exact z
theorem wb_qB (z : Wt (a δ) fun c => QB c δ) : Wb (qB a δ) QB E := by
  rw [ap_qB]
  obtain ⟨c0, e0, z⟩ := wt_ex z
  simp only [e0]
  exact z
theorem wb_yes (z : QB true δ) : Wb (yesB δ) QB E := z
theorem wt_not (z : Wt (a δ) fun c => qb (!c)) : Wt (notQ a δ) qb := by
  rw [ap_notQ]
  obtain ⟨c0, e0, z⟩ := wt_ex z
  simp only [e0]
  exact z
theorem wt_and (z : Wt (a δ) fun c => if c = true then Wt (b δ) qb else qb false) : Wt (andQ a b δ) qb := by
  rw [ap_andQ]
  obtain ⟨c0, e0, z⟩ := wt_ex z
  simp only [e0]
  cases c0 <;> exact z
theorem wt_or (z : Wt (a δ) fun c => if c = true then qb true else Wt (b δ) qb) : Wt (orQ a b δ) qb := by
  rw [ap_orQ]
  obtain ⟨c0, e0, z⟩ := wt_ex z
  simp only [e0]
  cases c0 <;> exact z
theorem wb_not (z : Wb (t δ) (fun c δ' => QB (!c) δ') E) : Wb (notE t δ) QB E := by
  rw [ap_notE]
  rcases wb_c z with ⟨t0, d0, e0, z⟩ | ⟨t0, d0, e0, z⟩ <;> simp only [e0]
  · exact z
  · exact z
theorem wb_and (z : Wb (t δ) (fun c δ' => if c = true then Wb (s δ') QB E else QB false δ') E) : Wb (andE t s δ) QB E := by
  rw [ap_andE]
  rcases wb_c z with ⟨t0, d0, e0, z⟩ | ⟨t0, d0, e0, z⟩ <;> simp only [e0]
  · cases t0 <;> exact z
  · exact z
theorem wb_or (z : Wb (t δ) (fun c δ' => if c = true then QB true δ' else Wb (s δ') QB E) E) : Wb (orE t s δ) QB E := by
  rw [ap_orE]
  rcases wb_c z with ⟨t0, d0, e0, z⟩ | ⟨t0, d0, e0, z⟩ <;> simp only [e0]
  · cases t0 <;> exact z
  · exact z
theorem wt_eq {r : Option Bool} {c : Bool} (e : r = some c) (z : qb c) : Wt r qb := by rw [e]; exact z
/-! targets, what is walked over -/
theorem wd_gN (z : Nm (δ.set i (some x)) QD) : Wd (gN i x δ) QD := z
theorem wd_gT (e : seqT x = some ts) (z : Wd (gs ts δ) QD) : Wd (gT gs x δ) QD := by rw [ap_gT, e]; exact z
theorem wd_nil (z : QD δ) : Wd (gNl [] δ) QD := z
theorem wd_cons (z : Wd (gp x δ) fun δ' => Wd (gs ts δ') QD) : Wd (gCs gp gs (x :: ts) δ) QD := by
  rw [ap_gCs]
  obtain ⟨c0, e0, z⟩ := wd_ex z
  simp only [e0]; exact z
theorem wi_it (z : We (f δ) (fun t δ' => So (itT t) fun ts => QL ts δ') E) : Wi (itE f δ) QL E := by
  rw [ap_itE]
  rcases we_c z with ⟨t0, d0, e0, z⟩ | ⟨t0, d0, e0, z⟩ <;> simp only [e0]
  · obtain ⟨us, e, z⟩ := z; simp only [e]; exact z
  · exact z
theorem wi_r1 (z : We (f δ) (fun t δ' => Is t T.int fun j => Sd (-4611686018427387904 ≤ j ∧ j < 4611686018427387904) (QL ((List.range j.toNat).map fun i => T.int (i : Nat)) δ')) E) : Wi (itR1 f δ) QL E := by
  rw [ap_itR1]
  rcases we_c z with ⟨t0, d0, e0, z⟩ | ⟨t0, d0, e0, z⟩ <;> simp only [e0]
  · obtain ⟨j, rfl, h, z⟩ := z
    have h' : -(2 ^ 62) ≤ j ∧ j < 2 ^ 62 := h
    simp only [if_pos h', Int.zero_add]; exact z
  · exact z
theorem wi_r2 (z : We (f δ) (fun t δ1 => Is t T.int fun i => We (g δ1) (fun t δ' => Is t T.int fun j => Sd (-4611686018427387904 ≤ i ∧ i < 4611686018427387904 ∧ -4611686018427387904 ≤ j ∧ j < 4611686018427387904) (QL ((List.range (j - i).toNat).map fun n => T.int (i + (n : Nat))) δ')) E) E) : Wi (itR2 f g δ) QL E := by
  rw [ap_itR2]
  rcases we_c z with ⟨t0, d0, e0, z⟩ | ⟨t0, d0, e0, z⟩ <;> simp only [e0]
  · obtain ⟨i, rfl, z⟩ := z
    simp only
    rcases we_c z with ⟨t1, d1, e1, j, rfl, h, z⟩ | ⟨t1, d1, e1, z⟩
    · have h' : -(2 ^ 62) ≤ i ∧ i < 2 ^ 62 ∧ -(2 ^ 62) ≤ j ∧ j < 2 ^ 62 := h
      simp only [e1, if_pos h']; exact z
    · simp only [e1]; exact z
  · exact z
theorem wi_en (z : We (f δ) (fun t δ' => Is t T.lst fun ts => QL (enT ts) δ') E) : Wi (itEn f δ) QL E := by
  rw [ap_itEn]
  rcases we_c z with ⟨t0, d0, e0, z⟩ | ⟨t0, d0, e0, z⟩ <;> simp only [e0]
  · obtain ⟨us, rfl, z⟩ := z; exact z
  · exact z
/-! a def -/
theorem wf_fn {ps : List Sh} {m : Nat} {rs : Sh} {RR : T → List T → Prop} {EE : Xn → List T → Prop} (z : Nm (ts.map some ++ List.replicate m none) fun δ => Ws (F δ) (fun δ => Sd (rs.nilOk = true) (Fn ps ts δ (RR .non))) (fun _ => False) (fun _ => False) (fun t δ => Fn ps ts δ (RR t)) (fun e δ => Fn ps ts δ (EE e))) : Wf (fnT ps m rs F ts) RR EE := by
  unfold Nm at z
  try dsimp only at z
  rw [ap_fn]; unfold Ws at z
  split at z
  · exact z.elim
  · rename_i e
    obtain ⟨h, l, e2, z⟩ := z
    simp only [e, h, if_true, e2]; exact z
  · exact z.elim
  · exact z.elim
  · rename_i e
    obtain ⟨l, e2, z⟩ := z
    simp only [e, e2]; exact z
  · rename_i e
    obtain ⟨l, e2, z⟩ := z
    simp only [e, e2]; exact z
theorem fin_o {s : Sh} {ss : List Sh} {l : List T} {y : T} (e : fin ss ts δ = some l) (h : s.isO = true := by rfl) : fin (s :: ss) (x :: ts) (some y :: δ) = some (y :: l) := by rw [finS, e]; simp only [h, if_true]
theorem fin_f {s : Sh} {ss : List Sh} {d : Option T} {l : List T} (e : fin ss ts δ = some l) (h : s.isO = false := by rfl) : fin (s :: ss) (x :: ts) (d :: δ) = some (x :: l) := by rw [finS, e]; simp only [h, Bool.false_eq_true, if_false]
end
end NQ
namespace NQ
open PySem L2
/-! ### the operations, wished for -/
section
variable {q : T → Prop} {qb : Bool → Prop} {a b : Str} {i j n : Int} {xs ys ts : List T} {x y c : T} {k : Bool} {f : Int → Int → Bool} {op op' : Op}
theorem wo_alt1 (h : op xs = some c) (z : q c) : Wq (altT op op' xs) q := by rw [ap_alt, h]; exact z
theorem wo_addi (z : q (.int (i + j))) : Wq (addR [.int i, .int j]) q := z
theorem wo_adds (h : a.length + b.length ≤ 16777216) (z : q (.str (a ++ b))) : Wq (addR [.str a, .str b]) q := by rw [o_adds, if_pos (by rw [sz_eq]; exact h)]; exact z
theorem wo_addAi (z : q (.int (i + j))) : Wq (addA [.int i, .int j]) q := z
theorem wo_addAs (h : a.length + b.length ≤ 16777216) (z : q (.str (a ++ b))) : Wq (addA [.str a, .str b]) q := by rw [o_addAs (by rw [sz_eq]; exact h)]; exact z
theorem wo_addL (h : xs.length + ys.length ≤ 16777216) (z : q (.lst (xs ++ ys))) : Wq (addL [.lst xs, .lst ys]) q := by rw [o_addL, if_pos (by rw [sz_eq]; exact h)]; exact z
theorem wo_addAl (h : xs.length + ys.length ≤ 16777216) (z : q (.lst (xs ++ ys))) : Wq (addA [.lst xs, .lst ys]) q := by rw [o_addAl, if_pos (by rw [sz_eq]; exact h)]; exact z
theorem wo_addI (z : q (.int (i + j))) : Wq (addI [.int i, .int j]) q := z
theorem wo_subI (z : q (.int (i - j))) : Wq (subI [.int i, .int j]) q := z
theorem wo_subi (z : q (.int (i - j))) : Wq (subT [.int i, .int j]) q := z
theorem wo_muliL (h1 : -18446744073709551616 < i) (h2 : i < 18446744073709551616) (z : q (.int (i * j))) : Wq (mulR [.int i, .int j]) q := by rw [o_muli, if_pos (.inl ⟨h1, h2⟩)]; exact z
theorem wo_muliR (h1 : -18446744073709551616 < j) (h2 : j < 18446744073709551616) (z : q (.int (i * j))) : Wq (mulR [.int i, .int j]) q := by rw [o_muli, if_pos (.inr (.inl ⟨h1, h2⟩))]; exact z
theorem wo_mulAL (h1 : -18446744073709551616 < i) (h2 : i < 18446744073709551616) (z : q (.int (i * j))) : Wq (mulA [.int i, .int j]) q := by rw [o_mulAi (.inl ⟨h1, h2⟩)]; exact z
theorem wo_mulAR (h1 : -18446744073709551616 < j) (h2 : j < 18446744073709551616) (z : q (.int (i * j))) : Wq (mulA [.int i, .int j]) q := by rw [o_mulAi (.inr (.inl ⟨h1, h2⟩))]; exact z
theorem wo_muls (h1 : -1048576 < n ∧ n < 1048576 ∧ a.length * n.toNat ≤ 1000000) (z : q (.str (Txt.mul a n))) : Wq (mulR [.str a, .int n]) q := by
  have h1' : -(2 ^ 20) < n ∧ n < 2 ^ 20 ∧ a.length * n.toNat ≤ 1000000 := h1
  rw [o_muls, if_pos h1']; exact z
theorem wo_mulL (h1 : -9223372036854775808 ≤ n ∧ n < 9223372036854775808 ∧ xs.length * n.toNat ≤ 16777216) (z : q (.lst (List.replicate n.toNat xs).flatten)) : Wq (mulL [.lst xs, .int n]) q := by
  have h1' : -(2 ^ 63) ≤ n ∧ n < 2 ^ 63 ∧ xs.length * n.toNat ≤ sizeLine := h1
  rw [o_mulL, if_pos h1']; exact z
theorem wo_mulAl (h1 : -9223372036854775808 ≤ n ∧ n < 9223372036854775808 ∧ xs.length * n.toNat ≤ 16777216) (z : q (.lst (List.replicate n.toNat xs).flatten)) : Wq (mulA [.lst xs, .int n]) q := by
  have h1' : -(2 ^ 63) ≤ n ∧ n < 2 ^ 63 ∧ xs.length * n.toNat ≤ sizeLine := h1
  rw [o_mulAl, if_pos h1']; exact z
theorem wo_modi (h : 0 < j) (z : q (.int (i % j))) : Wq (modT [.int i, .int j]) q := by rw [o_modi, if_pos h]; exact z
theorem wo_divi (h0 : 0 < j) (h1 : j < 1000000000000) (z : q (.int (i / j))) : Wq (divT [.int i, .int j]) q := by rw [o_divs h0 h1]; exact z
theorem wo_powi (h0 : 0 ≤ j) (h1 : j ≤ 1000000) (h2 : -18446744073709551616 < i) (h3 : i < 18446744073709551616) (z : q (.int (i ^ j.toNat))) : Wq (powT [.int i, .int j]) q := by rw [o_pows h0 h1 h2 h3]; exact z
theorem wo_cmp (z : q (.bl (f i j))) : Wq (cmpT f [.int i, .int j]) q := z
theorem wo_neg (z : q (.int (-i))) : Wq (negT [.int i]) q := z
theorem wo_eq (e : eqB x y = some k) (z : q (.bl k)) : Wq (eqT [x, y]) q := by rw [o_eq, e]; exact z
theorem wo_ne (e : eqB x y = some k) (z : q (.bl (!k))) : Wq (neT [x, y]) q := by rw [o_ne, e]; exact z
theorem wo_isN (z : q (.bl x.isN)) : Wq (isNT [x, .non]) q := z
theorem wo_notN (z : q (.bl (!x.isN))) : Wq (notNT [x, .non]) q := z
theorem wo_in (e : memB x y = some k) (z : q (.bl k)) : Wq (inA [x, y]) q := by rw [o_in e]; exact z
theorem wo_nin (e : memB x y = some k) (z : q (.bl (!k))) : Wq (ninA [x, y]) q := by rw [o_nin e]; exact z
theorem wo_len_l (z : q (.int xs.length)) : Wq (lenT [.lst xs]) q := z
theorem wo_len_t (z : q (.int xs.length)) : Wq (lenT [.tup xs]) q := z
theorem wo_len_c (z : q (.int xs.length)) : Wq (lenT [.ctup xs]) q := z
theorem wo_len_s (h : a.length ≤ 16777216) (z : q (.int a.length)) : Wq (lenT [.str a]) q := by rw [o_len_s, if_pos (by rw [sz_eq]; exact h)]; exact z
theorem wo_int_i (z : q (.int i)) : Wq (intT [.int i]) q := z
theorem wo_int_b (z : q (.int (if k then 1 else 0))) : Wq (intT [.bl k]) q := z
theorem wo_str_i (h : i.natAbs.log2 < 1920) (z : q (.str (toString i))) : Wq (strT [.int i]) q := by rw [o_str_i, if_pos h]; exact z
theorem wo_str_s (z : q (.str a)) : Wq (strT [.str a]) q := z
theorem wo_abs (z : q (.int (if i < 0 then -i else i))) : Wq (absT [.int i]) q := z
theorem wo_max (z : q (.int (if j > i then j else i))) : Wq (maxT [.int i, .int j]) q := z
theorem wo_min (z : q (.int (if j < i then j else i))) : Wq (minT [.int i, .int j]) q := z
theorem wo_list_l (z : q (.lst xs)) : Wq (listA [.lst xs]) q := z
theorem wo_list_t (z : q (.lst xs)) : Wq (listA [.tup xs]) q := z
theorem wo_list_c (z : q (.lst xs)) : Wq (listA [.ctup xs]) q := z
theorem wo_list_s (h : a.length ≤ 16777216) (z : q (.lst ((NL.sgn a).map T.str))) : Wq (listA [.str a]) q := by rw [o_list_s, if_pos (by rw [sz_eq]; exact h)]; exact z
theorem wo_tuple (z : q (.tup xs)) : Wq (tupleL [.lst xs]) q := z
theorem wo_lst (h : ts.length ≤ 16777216) (z : q (.lst ts)) : Wq (lstT ts) q := by rw [o_lst, if_pos (by rw [sz_eq]; exact h)]; exact z
theorem wo_tup (h : ts.length ≤ 16777216) (z : q (.tup ts)) : Wq (tupT ts) q := by rw [o_tup, if_pos (by rw [sz_eq]; exact h)]; exact z
theorem wo_disp {ks : List Key} (h1 : ks.Nodup) (h2 : ks.length = ts.length) (h3 : ks.length ≤ 15) (z : q (.dic ks ts)) : Wq (dispT ks ts) q := by rw [o_disp, if_pos ⟨h1, h2, h3⟩]; exact z
theorem wo_split (h1 : (b.length == 0) = false) (h2 : a.length ≤ 16777214) (z : q (.lst ((Txt.split a b).map T.str))) : Wq (splitT [.str a, .str b]) q := by rw [o_split, if_pos ⟨h1, by rw [sz_eq]; omega⟩]; exact z
theorem wo_words (h2 : a.length ≤ 16777214) (z : q (.lst ((Txt.words a).map T.str))) : Wq (wordsT [.str a]) q := by rw [o_words, if_pos (by rw [sz_eq]; omega)]; exact z
theorem wo_strip (h2 : a.length ≤ 16777216) (z : q (.str (Txt.strip a))) : Wq (stripT [.str a]) q := by rw [o_strip, if_pos (by rw [sz_eq]; exact h2)]; exact z
theorem wo_join {l : List Str} (e : ts = l.map T.str) (h : (l.map (·.length)).sum + l.length * a.length ≤ 16777216) (z : q (.str (Txt.join a l))) : Wq (joinT [.str a, .lst ts]) q := by subst e; rw [o_join, if_pos h]; exact z
theorem wo_slS1 (h : a.length ≤ 16777216) (z : q (.str (cutS a (some i) none))) : Wq (slS true false [.str a, .int i]) q := by rw [o_slS1, if_pos (by rw [sz_eq]; exact h)]; exact z
theorem wo_slS2 (h : a.length ≤ 16777216) (z : q (.str (cutS a none (some i)))) : Wq (slS false true [.str a, .int i]) q := by rw [o_slS2, if_pos (by rw [sz_eq]; exact h)]; exact z
theorem wo_slS3 (h : a.length ≤ 16777216) (z : q (.str (cutS a (some i) (some j)))) : Wq (slS true true [.str a, .int i, .int j]) q := by rw [o_slS3, if_pos (by rw [sz_eq]; exact h)]; exact z
theorem wo_slL1 (z : q (.lst (cutT xs (some i) none))) : Wq (slL true false [.lst xs, .int i]) q := z
theorem wo_slL2 (z : q (.lst (cutT xs none (some i)))) : Wq (slL false true [.lst xs, .int i]) q := z
theorem wo_slL3 (z : q (.lst (cutT xs (some i) (some j)))) : Wq (slL true true [.lst xs, .int i, .int j]) q := z
theorem wo_ixR_l (e : atI xs i = some x) (h : x.isS = true) (z : q x) : Wq (ixRA [.lst xs, .int i]) q := by rw [o_ixR_l, e]; simp only [h, if_true]; exact z
theorem wo_ixR_t (e : atI xs i = some x) (h : x.isS = true) (z : q x) : Wq (ixRA [.tup xs, .int i]) q := by rw [o_ixR_t, e]; simp only [h, if_true]; exact z
theorem wo_ix_l (e : atI xs i = some x) (z : q x) : Wq (ixA [.lst xs, .int i]) q := by rw [o_ix_l, e]; exact z
theorem wo_ix_t (e : atI xs i = some x) (z : q x) : Wq (ixA [.tup xs, .int i]) q := by rw [o_ix_t, e]; exact z
theorem wo_ix_s {c : Nat} (e : atI a.cps.toList i = some c) (h : a.length ≤ 16777216) (z : q (.str ⟨#[c]⟩)) : Wq (ixA [.str a, .int i]) q := by rw [o_ix_s, if_pos (by rw [sz_eq]; exact h), e]; exact z
theorem wo_ix_d {ks : List Key} {kk : Key} (h : x.key = some kk) (e : lookT ks xs kk = some y) (z : q y) : Wq (ixA [.dic ks xs, x]) q := by rw [o_ix_d h, e]; exact z
theorem wo_isi {m p : String} (h : x.tyn = some m) (h2 : subB m p = some k) (z : q (.bl k)) : Wq (isiT [x, .ty p]) q := by rw [o_isi h h2]; exact z
theorem wt_b (z : qb k) : Wt (truT (.bl k)) qb := z
theorem wt_i (z : qb (i != 0)) : Wt (truT (.int i)) qb := z
theorem wt_l (z : qb (!xs.isEmpty)) : Wt (truT (.lst xs)) qb := z
theorem wt_n (z : qb false) : Wt (truT .non) qb := z
theorem wt_s (h : a.length ≤ 16777216) (z : qb ((a.length : Int) != 0)) : Wt (truT (.str a)) qb := by rw [tru_s, if_pos (by rw [sz_eq]; exact h)]; exact z
theorem wtw_b (z : qb k) : Wt (truW (.bl k)) qb := z
theorem wtw_n (z : qb false) : Wt (truW .non) qb := z
theorem wtw_i (z : qb (i != 0)) : Wt (truW (.int i)) qb := z
theorem wtw_l (z : qb (!xs.isEmpty)) : Wt (truW (.lst xs)) qb := z
/-! equality of scalars -/
theorem eqB_ii : eqB (.int i) (.int j) = some (decide (i = j)) := by
  unfold eqB
  simp only [T.pd]
  by_cases h : i = j <;> simp [PyData.depth, PyData.eqv, h]
theorem eqB_ss : eqB (.str a) (.str b) = some (decide (a = b)) := by
  unfold eqB
  simp only [T.pd]
  by_cases h : a = b <;> simp [PyData.depth, PyData.eqv, h]
theorem ite_t {A B : Prop} {k : Bool} (e : k = true) (z : A) : if k = true then A else B := by rw [if_pos e]; exact z
theorem ite_f {A B : Prop} {k : Bool} (e : k = false) (z : B) : if k = true then A else B := by rw [if_neg (by rw [e]; exact Bool.false_ne_true)]; exact z
end
end NQ
namespace NQ
open PySem L2
/-! ### equality of plain data: no truth values, no written tuples -/
def T.pl : Nat → T → Bool
  | _, .non => true
  | _, .int _ => true
  | _, .str _ => true
  | n + 1, .lst ts => ts.all (T.pl n)
  | n + 1, .tup ts => ts.all (T.pl n)
  | _, _ => false
theorem pl_le : ∀ {n m : Nat} {x : T}, n ≤ m → T.pl n x = true → T.pl m x = true
  | n, m, .non, _, _ => by cases m <;> rfl
  | n, m, .int _, _, _ => by cases m <;> rfl
  | n, m, .str _, _, _ => by cases m <;> rfl
  | n + 1, m + 1, .lst ts, h, e => by
    simp only [T.pl, List.all_eq_true] at e ⊢
    exact fun t ht => pl_le (Nat.le_of_succ_le_succ h) (e t ht)
  | n + 1, m + 1, .tup ts, h, e => by
    simp only [T.pl, List.all_eq_true] at e ⊢
    exact fun t ht => pl_le (Nat.le_of_succ_le_succ h) (e t ht)
  | 0, _, .lst _, _, e => by cases e
  | 0, _, .tup _, _, e => by cases e
  | n, _, .bl _, _, e => by cases n <;> cases e
  | n, _, .ctup _, _, e => by cases n <;> cases e
  | n, _, .clst _, _, e => by cases n <;> cases e
  | n, _, .dic _ _, _, e => by cases n <;> cases e
  | n, _, .dit _ _, _, e => by cases n <;> cases e
  | n, _, .ins _ _ _, _, e => by cases n <;> cases e
  | n, _, .gl _, _, e => by cases n <;> cases e
  | n, _, .ty _, _, e => by cases n <;> cases e
theorem pd_lst {ts : List T} {ds : List PyData} (h : pdL ts = some ds) : (T.lst ts).pd = some (.list ds) := by
  show (match pdL ts with | some ds => some (PyData.list ds) | none => none) = _
  rw [h]
theorem pd_tup {ts : List T} {ds : List PyData} (h : pdL ts = some ds) : (T.tup ts).pd = some (.tuple ds) := by
  show (match pdL ts with | some ds => some (PyData.tuple ds) | none => none) = _
  rw [h]
theorem pl_pds {n : Nat} (ih : ∀ {x : T}, T.pl n x = true → ∃ d, x.pd = some d ∧ d.depth ≤ n + 1) : ∀ {ts : List T}, ts.all (T.pl n) = true → ∃ ds, pdL ts = some ds ∧ PyData.depthAll ds ≤ n + 1
  | [], _ => ⟨[], rfl, Nat.zero_le _⟩
  | t :: r, h => by
    rw [List.all_cons, Bool.and_eq_true] at h
    obtain ⟨d, h1, h2⟩ := ih h.1
    obtain ⟨ds, h3, h4⟩ := pl_pds ih h.2
    refine ⟨d :: ds, by show (match t.pd, pdL r with | some d, some ds => some (d :: ds) | _, _ => none) = _; rw [h1, h3], ?_⟩
    simp only [PyData.depthAll]
    omega
theorem pl_pd : ∀ {n : Nat} {x : T}, T.pl n x = true → ∃ d, x.pd = some d ∧ d.depth ≤ n + 1
  | n, .non, _ => ⟨.none, rfl, by simp [PyData.depth]⟩
  | n, .int i, _ => ⟨.int i, rfl, by simp [PyData.depth]⟩
  | n, .str s, _ => ⟨.str s, rfl, by simp [PyData.depth]⟩
  | n + 1, .lst ts, e => by
    obtain ⟨ds, h1, h2⟩ := pl_pds (n := n) (fun h => pl_pd h) (ts := ts) e
    exact ⟨.list ds, pd_lst h1, by simp only [PyData.depth]; omega⟩
  | n + 1, .tup ts, e => by
    obtain ⟨ds, h1, h2⟩ := pl_pds (n := n) (fun h => pl_pd h) (ts := ts) e
    exact ⟨.tuple ds, pd_tup h1, by simp only [PyData.depth]; omega⟩
  | 0, .lst _, e => by cases e
  | 0, .tup _, e => by cases e
  | n, .bl _, e => by cases n <;> cases e
  | n, .ctup _, e => by cases n <;> cases e
  | n, .clst _, e => by cases n <;> cases e
  | n, .dic _ _, e => by cases n <;> cases e
  | n, .dit _ _, e => by cases n <;> cases e
  | n, .ins _ _ _, e => by cases n <;> cases e
  | n, .gl _, e => by cases n <;> cases e
  | n, .ty _, e => by cases n <;> cases e
theorem pl_kinds {n : Nat} {x : T} (h : T.pl n x = true) : x = .non ∨ (∃ i, x = .int i) ∨ (∃ s, x = .str s) ∨ (∃ m ts, n = m + 1 ∧ x = .lst ts ∧ ts.all (T.pl m) = true) ∨ ∃ m ts, n = m + 1 ∧ x = .tup ts ∧ ts.all (T.pl m) = true := by
  cases x with
  | non => exact .inl rfl
  | int i => exact .inr (.inl ⟨i, rfl⟩)
  | str s => exact .inr (.inr (.inl ⟨s, rfl⟩))
  | lst ts =>
    cases n with
    | zero => cases h
    | succ m => exact .inr (.inr (.inr (.inl ⟨m, ts, rfl, rfl, h⟩)))
  | tup ts =>
    cases n with
    | zero => cases h
    | succ m => exact .inr (.inr (.inr (.inr ⟨m, ts, rfl, rfl, h⟩)))
  | _ => cases n <;> cases h
theorem pdL_cons {t : T} {r : List T} {ds : List PyData} (h : pdL (t :: r) = some ds) : ∃ d ds', t.pd = some d ∧ pdL r = some ds' ∧ ds = d :: ds' := by
  have h : (match t.pd, pdL r with | some d, some ds => some (d :: ds) | _, _ => none) = some ds := h
  split at h
  · cases h; rename_i h1 h2; exact ⟨_, _, h1, h2, rfl⟩
  · cases h
theorem pds_eqv {n : Nat} (ih : ∀ {x y : T} {d e : PyData}, T.pl n x = true → T.pl n y = true → x.pd = some d → y.pd = some e → (PyData.eqv d e = true ↔ x = y)) : ∀ {ts us : List T} {ds es : List PyData}, ts.all (T.pl n) = true → us.all (T.pl n) = true → pdL ts = some ds → pdL us = some es → (PyData.eqvAll ds es = true ↔ ts = us)
  | [], [], ds, es, _, _, h1, h2 => by cases h1; cases h2; simp [PyData.eqvAll]
  | [], u :: us, ds, es, _, _, h1, h2 => by
    obtain ⟨d, ds', _, _, rfl⟩ := pdL_cons h2
    cases h1
    simp [PyData.eqvAll]
  | t :: ts, [], ds, es, _, _, h1, h2 => by
    obtain ⟨d, ds', _, _, rfl⟩ := pdL_cons h1
    cases h2
    simp [PyData.eqvAll]
  | t :: ts, u :: us, ds, es, p1, p2, h1, h2 => by
    rw [List.all_cons, Bool.and_eq_true] at p1 p2
    obtain ⟨d, ds', a1, a2, rfl⟩ := pdL_cons h1
    obtain ⟨e, es', b1, b2, rfl⟩ := pdL_cons h2
    have q1 := ih p1.1 p2.1 a1 b1
    have q2 := pds_eqv ih p1.2 p2.2 a2 b2
    show (PyData.eqv d e && PyData.eqvAll ds' es') = true ↔ _
    rw [Bool.and_eq_true, q1, q2, List.cons.injEq]
theorem lst_pd {ts : List T} {d : PyData} (h : (T.lst ts).pd = some d) : ∃ ds, pdL ts = some ds ∧ d = .list ds := by
  have h : (match pdL ts with | some ds => some (PyData.list ds) | none => none) = some d := h
  split at h
  · cases h; rename_i h1; exact ⟨_, h1, rfl⟩
  · cases h
theorem tup_pd {ts : List T} {d : PyData} (h : (T.tup ts).pd = some d) : ∃ ds, pdL ts = some ds ∧ d = .tuple ds := by
  have h : (match pdL ts with | some ds => some (PyData.tuple ds) | none => none) = some d := h
  split at h
  · cases h; rename_i h1; exact ⟨_, h1, rfl⟩
  · cases h
theorem pd_eqv : ∀ {n : Nat} {x y : T} {d e : PyData}, T.pl n x = true → T.pl n y = true → x.pd = some d → y.pd = some e → (PyData.eqv d e = true ↔ x = y) := by
  intro n
  induction n with
  | zero =>
    intro x y d e p1 p2 h1 h2
    rcases pl_kinds p1 with rfl | ⟨i, rfl⟩ | ⟨s, rfl⟩ | ⟨_, _, z, _⟩ | ⟨_, _, z, _⟩ <;> try omega
    all_goals rcases pl_kinds p2 with rfl | ⟨j, rfl⟩ | ⟨u, rfl⟩ | ⟨_, _, z, _⟩ | ⟨_, _, z, _⟩ <;> first | omega | (cases h1; cases h2; simp [PyData.eqv])
  | succ n ih =>
    intro x y d e p1 p2 h1 h2
    rcases pl_kinds p1 with rfl | ⟨i, rfl⟩ | ⟨s, rfl⟩ | ⟨m, ts, z, rfl, q1⟩ | ⟨m, ts, z, rfl, q1⟩ <;> rcases pl_kinds p2 with rfl | ⟨j, rfl⟩ | ⟨u, rfl⟩ | ⟨m2, us, z2, rfl, q2⟩ | ⟨m2, us, z2, rfl, q2⟩
    all_goals first
      | (obtain rfl : n = m := by omega
         obtain rfl : n = m2 := by omega
         first
           | (obtain ⟨ds, a1, rfl⟩ := lst_pd h1
              obtain ⟨es, b1, rfl⟩ := lst_pd h2
              have := pds_eqv ih q1 q2 a1 b1
              simp only [PyData.eqv, this, T.lst.injEq])
           | (obtain ⟨ds, a1, rfl⟩ := tup_pd h1
              obtain ⟨es, b1, rfl⟩ := tup_pd h2
              have := pds_eqv ih q1 q2 a1 b1
              simp only [PyData.eqv, this, T.tup.injEq])
           | (obtain ⟨ds, a1, rfl⟩ := lst_pd h1
              obtain ⟨es, b1, rfl⟩ := tup_pd h2
              simp [PyData.eqv])
           | (obtain ⟨ds, a1, rfl⟩ := tup_pd h1
              obtain ⟨es, b1, rfl⟩ := lst_pd h2
              simp [PyData.eqv]))
      | (obtain ⟨ds, a1, rfl⟩ := lst_pd h1; cases h2; simp [PyData.eqv])
      | (obtain ⟨ds, a1, rfl⟩ := tup_pd h1; cases h2; simp [PyData.eqv])
      | (obtain ⟨ds, a1, rfl⟩ := lst_pd h2; cases h1; simp [PyData.eqv])
      | (obtain ⟨ds, a1, rfl⟩ := tup_pd h2; cases h1; simp [PyData.eqv])
      | (cases h1; cases h2; simp [PyData.eqv])
theorem ite_c {c A B : Prop} {inst : Decidable c} (h1 : c → A) (h2 : ¬ c → B) : if @decide c inst = true then A else B := by
  by_cases h : c
  · rw [if_pos (decide_eq_true h)]; exact h1 h
  · rw [if_neg (by rw [decide_eq_false h]; exact Bool.false_ne_true)]; exact h2 h
theorem ite_cn {c A B : Prop} {inst : Decidable c} (h1 : ¬ c → A) (h2 : c → B) : if (!@decide c inst) = true then A else B := by
  by_cases h : c
  · rw [if_neg (by rw [decide_eq_true h]; exact Bool.false_ne_true)]; exact h2 h
  · rw [if_pos (by rw [decide_eq_false h]; rfl)]; exact h1 h
theorem dec_t {c : Prop} {inst : Decidable c} (h : c) : @decide c inst = true := decide_eq_true h
theorem dec_f {c : Prop} {inst : Decidable c} (h : ¬ c) : @decide c inst = false := decide_eq_false h
open Classical in
/-- == of plain data is equality -/
theorem eqB_pl (n : Nat) {x y : T} (p1 : T.pl n x = true) (p2 : T.pl n y = true) (hn : n ≤ 59 := by decide) : eqB x y = some (decide (x = y)) := by
  obtain ⟨d, a1, a2⟩ := pl_pd p1
  obtain ⟨e, b1, b2⟩ := pl_pd p2
  unfold eqB
  rw [a1, b1]
  have q := pd_eqv p1 p2 a1 b1
  simp only [show d.depth ≤ 60 by omega, show e.depth ≤ 60 by omega, and_self, if_true]
  congr 1
  by_cases z : x = y
  · rw [q.mpr z]; simp [z]
  · have : PyData.eqv d e = false := by
      cases h : PyData.eqv d e with
      | false => rfl
      | true => exact absurd (q.mp h) z
    rw [this]; simp [z]
theorem strs_pl {n : Nat} (l : List Str) : (l.map T.str).all (T.pl n) = true := by
  rw [List.all_eq_true]
  intro t ht
  obtain ⟨s, _, rfl⟩ := List.mem_map.mp ht
  cases n <;> rfl
theorem ints_pl {n : Nat} (l : List Int) : (l.map T.int).all (T.pl n) = true := by
  rw [List.all_eq_true]
  intro t ht
  obtain ⟨s, _, rfl⟩ := List.mem_map.mp ht
  cases n <;> rfl
theorem strs_inj {a b : List Str} : a.map T.str = b.map T.str ↔ a = b := by
  constructor
  · intro h
    induction a generalizing b with
    | nil => cases b with
      | nil => rfl
      | cons _ _ => simp at h
    | cons x r ih => cases b with
      | nil => simp at h
      | cons y s =>
        simp only [List.map_cons, List.cons.injEq, T.str.injEq] at h
        rw [h.1, ih h.2]
  · rintro rfl; rfl
/-! membership in texts, lists of texts -/
theorem memB_ch {s z : Str} {c : Nat} (h : s.cps.toList = [c]) : memB (.str s) (.str z) = some (decide (c ∈ z.cps.toList)) := by
  unfold memB
  simp only [h]
theorem memB_l {x : T} {l : List T} (h1 : x.isS = true) (h2 : l.all T.isS = true) : memB x (.lst l) = some (inS x l) := by
  unfold memB
  simp only [h1, h2, and_self, if_true]
theorem memB_t {x : T} {l : List T} (h1 : x.isS = true) (h2 : l.all T.isS = true) : memB x (.tup l) = some (inS x l) := by
  unfold memB
  simp only [h1, h2, and_self, if_true]
theorem memB_c {x : T} {l : List T} (h1 : x.isS = true) : memB x (.ctup l) = some (inS x l) := by
  unfold memB
  simp only [h1, if_true]
theorem inS_strs {s : Str} {l : List Str} : inS (.str s) (l.map T.str) = decide (s ∈ l) := by
  unfold inS inV
  rw [List.map_map]
  induction l with
  | nil => simp
  | cons x r ih =>
    simp only [List.map_cons, List.any_cons, ih, List.mem_cons, Bool.decide_or]
    congr 1
    show (x == s) = decide (s = x)
    by_cases h : s = x
    · subst h; rw [decide_eq_true rfl]; exact beq_self_eq_true _
    · rw [decide_eq_false h]; exact beq_eq_false_iff_ne.mpr fun z => h z.symm
theorem strs_isS {l : List Str} (h : ∀ s ∈ l, PyData.strOk s = true) : (l.map T.str).all T.isS = true := by
  rw [List.all_eq_true]
  intro t ht
  obtain ⟨s, hs, rfl⟩ := List.mem_map.mp ht
  exact h s hs
end NQ
namespace NL
open PySem L2
local macro_rules | `(tactic| walk_at "wipe") => `(tactic| (simp only [wipe_cons, wipe_nil, List.map_cons, List.map_nil, List.set_cons_succ, List.set_cons_zero]; rfl))
local macro_rules | `(tactic| walk_at "mem") => `(tactic| first | assumption | exact List.mem_cons_self .. | (apply List.mem_cons_of_mem; walk_at "mem"))
local macro_rules | `(tactic| walk_at "sub") => `(tactic| first | exact no0 | exact subr | (refine sub1 ?_; walk_at "mem") | (refine subc ?_; walk_at "sub"))
local macro_rules | `(tactic| walk_at "df") => `(tactic| first
  | assumption | exact Df.int _ | exact Df.str _ | exact Df.non | exact Df.bl _
  | exact Bld.done (by assumption)
  | exact Dk.df (by assumption)
  | ((refine' Df.ed (by assumption) ?s ?h); (case s => walk_at "sub"); (case h => walk_at "df"))
  | ((refine' Df.via (by assumption) (by assumption) ?e ?h); (case e => walk_at "ed"); (case h => walk_at "df"))
  | ((refine' Df.more (by assumption) ?h); (case h => walk_at "df"))
  | ((refine' Df.weak ?s ?h); (case h => assumption); (case s => walk_at "sub")))
local macro_rules | `(tactic| walk_at "dfs") => `(tactic| first
  | assumption | exact DfAll.nil | ((refine' DfAll.cons ?a ?b); (case a => walk_at "df"); (case b => walk_at "dfs"))
  | exact DfAll.strs _ | exact DfAll.ints _)
local macro_rules | `(tactic| walk_at "dk") => `(tactic| first
  | assumption
  | ((refine' Dk.ed ?h (by assumption) ?s); (case s => walk_at "sub"); (case h => walk_at "dk"))
  | ((refine' Dk.via (by assumption) (by assumption) ?e ?h); (case e => walk_at "ed"); (case h => walk_at "dk"))
  | ((refine' Dk.more (by assumption) ?h); (case h => walk_at "dk")))
local macro_rules | `(tactic| walk_at "alive") => `(tactic| first | assumption | exact Bag.alive (by assumption) | exact Bld.alive (by assumption) | exact Df.alive (by assumption) | exact Dk.alive (by assumption))
local macro_rules | `(tactic| walk_at "wl") => `(tactic| first
  | assumption | exact Wl.nil
  | ((refine Wl.cons' ?a ?r); (case a => walk_at "alive"); (case r => walk_at "wl"))
  | ((refine Wl.ed ?r (by assumption)); (case r => walk_at "wl"))
  | exact Wl.tail (by assumption))
local macro_rules | `(tactic| walk_at "al") => `(tactic| first | exact Al.refl | ((refine' Al.of (by assumption) ?h); (case h => walk_at "al")))
local macro_rules | `(tactic| walk_at "fr") => `(tactic| first | assumption | ((refine' Al.free ?e (by assumption)); (case e => walk_at "al")))
local macro_rules | `(tactic| walk_at "edv") => `(tactic| first | exact no0 | ((refine edvl ?s); (case s => walk_at "sub")) | ((refine edv1 (Or.inr ?f)); (case f => walk_at "fr")))
local macro_rules | `(tactic| walk_at "ed") => `(tactic| first
  | assumption | exact Ed.refl
  | ((refine Ed.tr ?x (by assumption) ?v); (case x => walk_at "ed"); (case v => walk_at "edv")))
local macro_rules | `(tactic| walk_at "nb") => `(tactic| first | exact List.not_mem_nil | assumption | exact nb_bld (by assumption) (by walk_at "mem"))
local macro_rules | `(tactic| walk_at "bag") => `(tactic| first
  | assumption
  | ((refine' Bag.ed ?h (by assumption) ?n); (case n => walk_at "nb"); (case h => walk_at "bag"))
  | ((refine' Bag.via (by assumption) (by assumption) ?e ?h); (case e => walk_at "ed"); (case h => walk_at "bag")))
local macro_rules | `(tactic| walk_at "bld") => `(tactic| first
  | assumption
  | ((refine' Bld.ed ?h (by assumption) ?s); (case s => walk_at "sub"); (case h => walk_at "bld"))
  | ((refine' Bld.via (by assumption) (by assumption) ?e ?h); (case e => walk_at "ed"); (case h => walk_at "bld")))
local macro_rules | `(tactic| walk_at "num") => `(tactic| first | omega | assumption)
local macro_rules | `(tactic| walk_at "ne") => `(tactic| first
  | assumption
  | (apply Ne.symm; assumption)
  | (refine' ne_of_none ?n1 (by assumption); (case n1 => walk_at "hp"))
  | (refine' Ne.symm (ne_of_none ?n1 (by assumption)); (case n1 => walk_at "hp")))
local macro_rules | `(tactic| walk_at "hp") => `(tactic| first
  | assumption
  | with_reducible exact upd_same
  | ((with_reducible refine Eq.trans (upd_ne ?n1) ?n2); (case n1 => walk_at "ne"); (case n2 => walk_at "hp"))
  | ((with_reducible refine hp_same (by assumption) ?n2); (case n2 => walk_at "hp"))
  | ((with_reducible refine hp_sx (by assumption) ?n1 ?n2); (case n1 => simp only [List.mem_cons, List.not_mem_nil, or_false]; walk_at "ne"); (case n2 => walk_at "hp")))
local macro_rules | `(tactic| walk_at "sq") => `(tactic| first
  | assumption
  | ((refine' Or.inl ?n1); (case n1 => walk_at "sql"))
  | ((refine' Or.inr ?n1); (case n1 => walk_at "sqt")))
local macro_rules | `(tactic| walk_at "sql") => `(tactic| first
  | assumption
  | ((refine' SqL.of ?n1); (case n1 => walk_at "hp"))
  | (refine sqL_same (by assumption) ?n1; (case n1 => walk_at "same")))
local macro_rules | `(tactic| walk_at "same") => `(tactic| first
  | assumption
  | exact Same.refl _
  | (refine L2.Same.new ?n1 (by assumption); (case n1 => walk_at "same"))
  | (refine L2.Same.mut ?n1 ?n2; (case n2 => first | assumption | exact Same.free (by assumption) (by assumption)); (case n1 => walk_at "same")))
local macro_rules | `(tactic| walk_at "sqt") => `(tactic| first
  | assumption
  | ((refine' SqT.of ?n1); (case n1 => walk_at "hp")))
local macro_rules | `(tactic| walk_at "size") => `(tactic| (rw [sizeLine_eq] <;> first | omega | (simp; omega)))
local macro_rules | `(tactic| walk_at "flat") => `(tactic| first | assumption | exact flat_strs _ | exact flat_ints _ | rfl | simp [flatV])
local macro_rules | `(tactic| walk_at "go1") => `(tactic| first
  | with_reducible refine g_seq ?_
  | with_reducible refine g_asg ?_
  | ((with_reducible refine' g_nameE ?z ?_); (case z => (simp only [List.set_cons_succ, List.set_cons_zero]; rfl)))
  | with_reducible refine g_name ?_
  | with_reducible refine g_op ?_
  | ((with_reducible refine' g_var ?z ?_); (case z => exact rfl))
  | with_reducible refine g_c ?_
  | with_reducible refine g_cb ?_
  | with_reducible refine g_cons ?_
  | with_reducible refine g_nil ?_
  | with_reducible refine g_ifS ?_
  | with_reducible refine g_test ?_
  | with_reducible refine g_tb ?_
  | with_reducible refine g_bl ?_
  | with_reducible refine g_not ?_
  | with_reducible refine g_and ?_
  | with_reducible refine g_or ?_
  | with_reducible refine g_ret ?_
  | with_reducible refine g_retN ?_
  | with_reducible refine g_drop ?_
  | with_reducible refine g_ifE ?_
  | with_reducible refine g_callS ?_
  | with_reducible refine g_sub ?_
  | with_reducible refine g_un ?_
  | with_reducible refine g_next ?_
  | with_reducible refine g_cmp_i ?_
  | with_reducible refine g_add_i ?_
  | with_reducible refine g_sub_i ?_
  | with_reducible refine g_int_i ?_
  | with_reducible refine g_eq_i ?_
  | with_reducible refine g_eq_s ?_
  | with_reducible refine g_eq_b ?_
  | with_reducible refine g_ne_i ?_
  | with_reducible refine g_ne_s ?_
  | with_reducible refine g_ne_b ?_
  | with_reducible refine g_str_s ?_
  | with_reducible refine g_abs ?_
  | with_reducible refine g_max ?_
  | with_reducible refine g_min ?_
  | with_reducible refine g_isN ?_
  | with_reducible refine g_isNotN ?_
  | ((with_reducible refine g_mod_i ?z ?_); (case z => walk_at "num"))
  | ((with_reducible refine g_div_i ?z ?_); (case z => exact ⟨by walk_at "num", by first | assumption | decide⟩))
  | ((with_reducible refine g_mul_i ?z ?_); (case z => first | exact Or.inl (Or.inr ⟨by omega, by omega⟩) | exact Or.inl (Or.inl ⟨by omega, by omega⟩) | assumption))
  | ((with_reducible refine' g_ix_l ?z1 ?z2 ?_); (case z1 => walk_at "sq"); (case z2 => first | rfl | assumption))
  | ((with_reducible refine' g_setL ?z1 ?z2 ?_); (case z1 => walk_at "hp"); (case z2 => first | rfl | assumption))
  | ((with_reducible refine' g_len_l ?z1 ?_); (case z1 => walk_at "sq"))
  | ((with_reducible refine' g_augE ?z ?_); (case z => exact rfl))
  | with_reducible refine g_for ?_
  | with_reducible refine g_lc ?_
  | with_reducible refine g_iL ?_
  | with_reducible refine g_iT ?_
  | with_reducible refine g_iS ?_
  | with_reducible refine g_iS1 ?_
  | with_reducible refine g_iE ?_
  | with_reducible refine g_iR ?_
  | ((with_reducible refine' g_iL1 ?z1 ?_); (case z1 => walk_at "sql"))
  | ((with_reducible refine' g_iT1 ?z1 ?_); (case z1 => walk_at "sqt"))
  | ((with_reducible refine' g_iE1 ?z1 ?_); (case z1 => walk_at "sql"))
  | ((with_reducible refine g_iR1 ?z1 ?z2 ?_); (case z1 => walk_at "num"); (case z2 => walk_at "num"))
  | with_reducible refine g_yes ?_
  | with_reducible refine g_sl ?_
  | with_reducible refine g_noP ?_
  | with_reducible refine g_part ?_
  | ((with_reducible refine g_pow_i ?z ?_); (case z => exact ⟨by decide, by decide, by decide⟩))
  | ((with_reducible refine g_len_s ?z ?_); (case z => first | assumption | walk_at "size"))
  | with_reducible refine iteT ?_
  | with_reducible refine iteF ?_
  | with_reducible refine iteNT ?_
  | with_reducible refine iteNF ?_
  | with_reducible refine g_int1 ?_
  | ((with_reducible refine' g_slL ?z1 ?_); (case z1 => walk_at "sql"))
  | ((with_reducible refine' g_listL ?z1 ?_); (case z1 => walk_at "sq"))
  | ((with_reducible refine' g_inLs ?z1 ?_); (case z1 => walk_at "sq"))
  | ((with_reducible refine' g_ninLs ?z1 ?_); (case z1 => walk_at "sq"))
  | with_reducible refine g_ip ?_
  | with_reducible refine g_rU ?_
  | ((with_reducible refine' g_inL ?z1 ?z2 ?z3 ?_); (case z1 => walk_at "sq"); (case z2 => rfl); (case z3 => walk_at "flat"))
  | ((with_reducible refine' g_ninL ?z1 ?z2 ?z3 ?_); (case z1 => walk_at "sq"); (case z2 => rfl); (case z3 => walk_at "flat"))
  | with_reducible refine g_inS ?_
  | with_reducible refine g_ninS ?_
  | with_reducible refine g_bm ?_
  | with_reducible refine g_bm0 ?_
  | ((with_reducible refine' g_tyL ?z1 ?_); (case z1 => walk_at "sql"))
  | with_reducible refine g_tyS ?_
  | ((with_reducible refine' g_tyB ?z1 ?_); (case z1 => assumption))
  | ((with_reducible refine' g_tyD ?z1 ?_); (case z1 => assumption))
  | ((with_reducible refine' g_app ?z1 ?z2 ?_); (case z1 => walk_at "hp"); (case z2 => walk_at "size"))
  | ((with_reducible refine' g_join ?z1 ?z2 ?_); (case z1 => walk_at "sq"); (case z2 => walk_at "size"))
  | ((with_reducible refine g_words ?z ?_); (case z => walk_at "size"))
  | ((with_reducible refine g_split ?z1 ?z ?_); (case z1 => rfl); (case z => walk_at "size"))
  | with_reducible refine g_lst ?_
  | with_reducible refine g_tup ?_
  | with_reducible refine tru_b ?_
  | with_reducible refine tru_n ?_
  | with_reducible refine tru_i ?_
  | with_reducible refine g_andT ?_
  | with_reducible refine g_orT ?_
  | with_reducible refine g_notT ?_
  | with_reducible refine g_raise ?_
  | with_reducible refine g_raised ?_
  | with_reducible refine g_make ?_
  | with_reducible refine g_meth ?_
  | with_reducible refine g_fld ?_
  | with_reducible refine g_sfld ?_
  | ((with_reducible refine' g_gf ?z1 ?z2 ?z3 ?z4 ?_); (case z1 => walk_at "hp"); (case z2 => assumption); (case z3 => assumption); (case z4 => rfl))
  | ((with_reducible refine' g_sf ?z1 ?z2 ?z3 ?z4 ?_); (case z1 => walk_at "hp"); (case z2 => assumption); (case z3 => assumption); (case z4 => exact Nat.lt_of_lt_of_le (Nat.lt_succ_self _) (Nat.le_of_ble_eq_true rfl)))
  | ((with_reducible refine' g_gtup ?z1 ?z2 ?_); (case z1 => walk_at "sqt"); (case z2 => rfl))
  | with_reducible refine g_gcons ?_
  | with_reducible refine g_gnil ?_
  | with_reducible refine g_callO ?_
  | ((with_reducible refine' g_co ?z1 ?_); (case z1 => walk_at "hp"))
  | ((with_reducible refine' g_ci ?z1 ?_); (case z1 => walk_at "hp"))
  | with_reducible refine g_dget ?_
  | ((with_reducible refine' g_dgs ?z1 ?z2 ?_); (case z1 => walk_at "hp"); (case z2 => first | assumption | rfl))
  | with_reducible refine g_dput ?_
  | ((with_reducible refine' g_dps ?z1 ?z2 ?_); (case z1 => walk_at "hp"); (case z2 => walk_at "size"))
  | with_reducible refine g_match ?_
  | with_reducible refine g_matched ?_
  | with_reducible refine g_mcs ?_
  | with_reducible refine g_mcg ?_
  | with_reducible refine g_many ?_
  | with_reducible refine g_mnil ?_
  | with_reducible refine g_afld ?_
  | with_reducible refine g_rAdd ?_
  | with_reducible refine g_rSub ?_
  | ((with_reducible refine' g_gfa ?z1 ?z2 ?z3 ?z4 ?_); (case z1 => walk_at "hp"); (case z2 => assumption); (case z3 => assumption); (case z4 => rfl))
  | ((with_reducible refine' g_af ?z1 ?z2 ?_); (case z1 => walk_at "hp"); (case z2 => exact Nat.lt_of_lt_of_le (Nat.lt_succ_self _) (Nat.le_of_ble_eq_true rfl)))
  | ((with_reducible refine' g_mt ?z1 ?z2 ?_); (case z1 => walk_at "hp"); (case z2 => rfl))
  | with_reducible refine g_ite_refl ?_
  | with_reducible refine g_iZ ?_
  | with_reducible refine g_din ?_
  | with_reducible refine g_par ?_
  | with_reducible refine g_par2 ?_
  | ((with_reducible refine' g_iTd ?z1 ?_); (case z1 => assumption))
  | with_reducible refine g_dget2 ?_
  | ((with_reducible refine' g_isd ?z1 ?_); (case z1 => assumption))
  | with_reducible refine g_dnin ?_
  | with_reducible refine g_disp ?_
  | with_reducible refine g_pr ?_
  | with_reducible refine g_pr0 ?_
  | ((with_reducible refine' g_iLd ?z1 ?_); (case z1 => assumption))
  | ((with_reducible refine' g_iEd ?z1 ?_); (case z1 => assumption))
  | ((with_reducible refine' g_iZd ?z1 ?z2 ?_); (case z1 => assumption); (case z2 => assumption))
  | ((with_reducible refine' g_lend ?z1 ?_); (case z1 => assumption))
  | ((with_reducible refine' g_inds ?z1 ?_); (case z1 => assumption))
  | ((with_reducible refine' g_ninds ?z1 ?_); (case z1 => assumption))
  | ((with_reducible refine' g_dgd ?z1 ?z2 ?_); (case z1 => assumption); (case z2 => first | assumption | rfl))
  | with_reducible refine g_par3 ?_
  | with_reducible refine g_par33 ?_
  | with_reducible refine g_cm ?_
  | with_reducible refine g_star ?_
  | ((with_reducible refine' g_makeL ?z1 ?_); (case z1 => exact rfl))
  | with_reducible refine g_brk ?_
  | with_reducible refine g_cont ?_)
local macro_rules | `(tactic| walk_at "go") => `(tactic| repeat walk_at "go1")
-- EV
local macro_rules | `(tactic| walk_at "fin") => `(tactic| first | exact NQ.fin0 | exact NQ.fin_o (by walk_at "fin") rfl | exact NQ.fin_f (by walk_at "fin") rfl)
local macro_rules | `(tactic| walk_at "ev1") => `(tactic| first
  | ((with_reducible refine' NQ.nm_eq ?z1 ?_); (case z1 => (simp only [NQ.st0, NQ.stS, NQ.wp0, NQ.wpS, NQ.wb0, NQ.wbV, NQ.wbE, NQ.sk0, NQ.skV, NQ.skE, NQ.isO_fz, NQ.isO_vw, NQ.isO_all, NQ.isO_opt, NQ.isO_flds, NQ.isO_row, NQ.mp0, NQ.mpS, NQ.ap0, NQ.apS, NQ.rp0, NQ.rpS, if_true, if_false, Bool.false_eq_true] <;> exact rfl)))
  | with_reducible refine NQ.ws_seq ?_
  | with_reducible refine NQ.ws_next ?_
  | with_reducible refine NQ.ws_brk ?_
  | with_reducible refine NQ.ws_cont ?_
  | with_reducible refine NQ.ws_set ?_
  | with_reducible refine NQ.ws_drop ?_
  | with_reducible refine NQ.ws_ret ?_
  | with_reducible refine NQ.ws_retN ?_
  | with_reducible refine NQ.ws_if ?_
  | with_reducible refine NQ.ws_for ?_
  | with_reducible refine NQ.ws_asg ?_
  | with_reducible refine NQ.ws_raise ?_
  | with_reducible refine NQ.ws_match ?_
  | with_reducible refine NQ.ws_mNil ?_
  | with_reducible refine NQ.ws_mAny ?_
  | with_reducible refine NQ.ws_mCs ?_
  | with_reducible refine NQ.ws_mCg ?_
  | with_reducible refine NQ.ws_tryAs ?_
  | with_reducible refine NQ.ws_try ?_
  | with_reducible refine NQ.ws_setN ?_
  | ((with_reducible refine' NQ.ws_retV ?z1 ?_); (case z1 => exact rfl))
  | ((with_reducible refine' NQ.ws_aug ?z1 ?_); (case z1 => exact rfl))
  | ((with_reducible refine' NQ.ws_frz ?z1 ?_); (case z1 => exact rfl))
  | ((with_reducible refine' NQ.wq_eq ?z1 ?_); (case z1 => assumption))
  | with_reducible refine NQ.we_qE ?_
  | with_reducible refine NQ.we_opn ?_
  | with_reducible refine NQ.we_opnc ?_
  | with_reducible refine NQ.we_disp ?_
  | with_reducible refine NQ.we_call ?_
  | with_reducible refine NQ.we_if ?_
  | with_reducible refine NQ.we_andW ?_
  | with_reducible refine NQ.we_orW ?_
  | with_reducible refine NQ.we_lc ?_
  | with_reducible refine NQ.wa_nil ?_
  | with_reducible refine NQ.wa_val ?_
  | with_reducible refine NQ.wl_nil ?_
  | with_reducible refine NQ.wl_cons ?_
  | with_reducible refine NQ.wq_opq ?_
  | with_reducible refine NQ.wq_eC ?_
  | with_reducible refine NQ.wq_if ?_
  | with_reducible refine NQ.wq_andV ?_
  | with_reducible refine NQ.wq_orV ?_
  | with_reducible refine NQ.wq_ch ?_
  | with_reducible refine NQ.wt_asB ?_
  | with_reducible refine NQ.wt_asTru ?_
  | with_reducible refine NQ.wb_asBE ?_
  | with_reducible refine NQ.wb_asTruE ?_
  | with_reducible refine NQ.wb_qB ?_
  | with_reducible refine NQ.wb_yes ?_
  | with_reducible refine NQ.wt_not ?_
  | with_reducible refine NQ.wt_and ?_
  | with_reducible refine NQ.wt_or ?_
  | with_reducible refine NQ.wb_not ?_
  | with_reducible refine NQ.wb_and ?_
  | with_reducible refine NQ.wb_or ?_
  | with_reducible refine NQ.wd_gN ?_
  | with_reducible refine NQ.wd_nil ?_
  | with_reducible refine NQ.wd_cons ?_
  | with_reducible refine NQ.wi_it ?_
  | with_reducible refine NQ.wi_r1 ?_
  | with_reducible refine NQ.wi_r2 ?_
  | with_reducible refine NQ.wi_en ?_
  | ((with_reducible refine' NQ.wa_var ?z1 ?_); (case z1 => exact rfl))
  | ((with_reducible refine' NQ.wq_eV ?z1 ?_); (case z1 => exact rfl))
  | ((with_reducible refine' NQ.wd_gT ?z1 ?_); (case z1 => exact rfl))
  | ((with_reducible refine' NQ.wf_eq ?z1 ?_); (case z1 => assumption))
  | ((with_reducible refine' NQ.wf_eqX ?z1 ?_); (case z1 => assumption))
  | with_reducible refine NQ.wo_addi ?_
  | with_reducible refine NQ.wo_addAi ?_
  | with_reducible refine NQ.wo_addI ?_
  | with_reducible refine NQ.wo_subI ?_
  | with_reducible refine NQ.wo_subi ?_
  | with_reducible refine NQ.wo_cmp ?_
  | with_reducible refine NQ.wo_neg ?_
  | with_reducible refine NQ.wo_isN ?_
  | with_reducible refine NQ.wo_notN ?_
  | with_reducible refine NQ.wo_len_l ?_
  | with_reducible refine NQ.wo_len_t ?_
  | with_reducible refine NQ.wo_len_c ?_
  | with_reducible refine NQ.wo_int_i ?_
  | with_reducible refine NQ.wo_int_b ?_
  | with_reducible refine NQ.wo_str_s ?_
  | with_reducible refine NQ.wo_abs ?_
  | with_reducible refine NQ.wo_max ?_
  | with_reducible refine NQ.wo_min ?_
  | with_reducible refine NQ.wo_list_l ?_
  | with_reducible refine NQ.wo_list_t ?_
  | with_reducible refine NQ.wo_list_c ?_
  | with_reducible refine NQ.wo_tuple ?_
  | with_reducible refine NQ.wo_slL1 ?_
  | with_reducible refine NQ.wo_slL2 ?_
  | with_reducible refine NQ.wo_slL3 ?_
  | ((with_reducible refine' NQ.wo_adds ?z1 ?_); (case z1 => first | assumption | omega | (simp only [List.length_cons, List.length_nil, List.length_append, List.length_map, List.length_range, Str.length_append] <;> omega) | decide +kernel))
  | ((with_reducible refine' NQ.wo_addAs ?z1 ?_); (case z1 => first | assumption | omega | (simp only [List.length_cons, List.length_nil, List.length_append, List.length_map, List.length_range, Str.length_append] <;> omega) | decide +kernel))
  | ((with_reducible refine' NQ.wo_addL ?z1 ?_); (case z1 => first | assumption | omega | (simp only [List.length_cons, List.length_nil, List.length_append, List.length_map, List.length_range, Str.length_append] <;> omega) | decide +kernel))
  | ((with_reducible refine' NQ.wo_addAl ?z1 ?_); (case z1 => first | assumption | omega | (simp only [List.length_cons, List.length_nil, List.length_append, List.length_map, List.length_range, Str.length_append] <;> omega) | decide +kernel))
  | ((with_reducible refine' NQ.wo_len_s ?z1 ?_); (case z1 => first | assumption | omega | (simp only [List.length_cons, List.length_nil, List.length_append, List.length_map, List.length_range, Str.length_append] <;> omega) | decide +kernel))
  | ((with_reducible refine' NQ.wo_list_s ?z1 ?_); (case z1 => first | assumption | omega | (simp only [List.length_cons, List.length_nil, List.length_append, List.length_map, List.length_range, Str.length_append] <;> omega) | decide +kernel))
  | ((with_reducible refine' NQ.wo_lst ?z1 ?_); (case z1 => first | assumption | omega | (simp only [List.length_cons, List.length_nil, List.length_append, List.length_map, List.length_range, Str.length_append] <;> omega) | decide +kernel))
  | ((with_reducible refine' NQ.wo_tup ?z1 ?_); (case z1 => first | assumption | omega | (simp only [List.length_cons, List.length_nil, List.length_append, List.length_map, List.length_range, Str.length_append] <;> omega) | decide +kernel))
  | ((with_reducible refine' NQ.wo_slS1 ?z1 ?_); (case z1 => first | assumption | omega | (simp only [List.length_cons, List.length_nil, List.length_append, List.length_map, List.length_range, Str.length_append] <;> omega) | decide +kernel))
  | ((with_reducible refine' NQ.wo_slS2 ?z1 ?_); (case z1 => first | assumption | omega | (simp only [List.length_cons, List.length_nil, List.length_append, List.length_map, List.length_range, Str.length_append] <;> omega) | decide +kernel))
  | ((with_reducible refine' NQ.wo_slS3 ?z1 ?_); (case z1 => first | assumption | omega | (simp only [List.length_cons, List.length_nil, List.length_append, List.length_map, List.length_range, Str.length_append] <;> omega) | decide +kernel))
  | ((with_reducible refine' NQ.wo_words ?z1 ?_); (case z1 => first | assumption | omega | (simp only [List.length_cons, List.length_nil, List.length_append, List.length_map, List.length_range, Str.length_append] <;> omega) | decide +kernel))
  | ((with_reducible refine' NQ.wo_strip ?z1 ?_); (case z1 => first | assumption | omega | (simp only [List.length_cons, List.length_nil, List.length_append, List.length_map, List.length_range, Str.length_append] <;> omega) | decide +kernel))
  | ((with_reducible refine' NQ.wo_muliR ?z1 ?z2 ?_); (case z1 => first | assumption | omega | decide); (case z2 => first | assumption | omega | decide))
  | ((with_reducible refine' NQ.wo_muliL ?z1 ?z2 ?_); (case z1 => first | assumption | omega | decide); (case z2 => first | assumption | omega | decide))
  | ((with_reducible refine' NQ.wo_mulAR ?z1 ?z2 ?_); (case z1 => first | assumption | omega | decide); (case z2 => first | assumption | omega | decide))
  | ((with_reducible refine' NQ.wo_mulAL ?z1 ?z2 ?_); (case z1 => first | assumption | omega | decide); (case z2 => first | assumption | omega | decide))
  | ((with_reducible refine' NQ.wo_muls ?z1 ?_); (case z1 => (refine ⟨?_, ?_, ?_⟩ <;> first | assumption | omega | decide | (exact Nat.le_of_ble_eq_true rfl) | (simp only [List.length_cons, List.length_nil, List.length_append, List.length_map, List.length_range, Str.length_append] <;> omega))))
  | ((with_reducible refine' NQ.wo_mulL ?z1 ?_); (case z1 => (refine ⟨?_, ?_, ?_⟩ <;> first | assumption | omega | decide | (exact Nat.le_of_ble_eq_true rfl) | (simp only [List.length_cons, List.length_nil, List.length_append, List.length_map, List.length_range, Str.length_append] <;> omega))))
  | ((with_reducible refine' NQ.wo_mulAl ?z1 ?_); (case z1 => (refine ⟨?_, ?_, ?_⟩ <;> first | assumption | omega | decide | (exact Nat.le_of_ble_eq_true rfl) | (simp only [List.length_cons, List.length_nil, List.length_append, List.length_map, List.length_range, Str.length_append] <;> omega))))
  | ((with_reducible refine' NQ.wo_modi ?z1 ?_); (case z1 => first | assumption | omega | decide))
  | ((with_reducible refine' NQ.wo_divi ?z1 ?z2 ?_); (case z1 => first | assumption | omega | decide); (case z2 => first | assumption | omega | decide))
  | ((with_reducible refine' NQ.wo_powi ?z1 ?z2 ?z3 ?z4 ?_); (case z1 => first | assumption | omega | decide); (case z2 => first | assumption | omega | decide); (case z3 => first | assumption | omega | decide); (case z4 => first | assumption | omega | decide))
  | ((with_reducible refine' NQ.wo_eq ?z1 ?_); (case z1 => first | assumption | exact NQ.eqB_ii | exact NQ.eqB_ss | exact NQ.eqB_pl 9 (by first | rfl | assumption) (by first | rfl | assumption)))
  | ((with_reducible refine' NQ.wo_ne ?z1 ?_); (case z1 => first | assumption | exact NQ.eqB_ii | exact NQ.eqB_ss | exact NQ.eqB_pl 9 (by first | rfl | assumption) (by first | rfl | assumption)))
  | ((with_reducible refine' NQ.wo_in ?z1 ?_); (case z1 => first | assumption | exact NQ.memB_ch (by first | rfl | assumption) | exact NQ.memB_c (by first | rfl | assumption) | exact NQ.memB_l (by first | rfl | assumption) (by first | rfl | assumption) | exact NQ.memB_t (by first | rfl | assumption) (by first | rfl | assumption)))
  | ((with_reducible refine' NQ.wo_nin ?z1 ?_); (case z1 => first | assumption | exact NQ.memB_ch (by first | rfl | assumption) | exact NQ.memB_c (by first | rfl | assumption) | exact NQ.memB_l (by first | rfl | assumption) (by first | rfl | assumption) | exact NQ.memB_t (by first | rfl | assumption) (by first | rfl | assumption)))
  | ((with_reducible refine' NQ.wo_disp ?z1 ?z2 ?z3 ?_); (case z1 => decide +kernel); (case z2 => exact rfl); (case z3 => decide))
  | ((with_reducible refine' NQ.wo_split ?z1 ?z2 ?_); (case z1 => first | exact rfl | assumption | decide +kernel); (case z2 => first | assumption | omega | (simp only [List.length_cons, List.length_nil, List.length_append, List.length_map, List.length_range, Str.length_append] <;> omega) | decide +kernel))
  | ((with_reducible refine' NQ.wo_join ?z1 ?z2 ?_); (case z1 => first | assumption | exact rfl); (case z2 => first | assumption))
  | ((with_reducible refine' NQ.wo_ixR_l ?z1 ?z2 ?_); (case z1 => first | exact NQ.atI0 | exact NQ.atI1 | assumption); (case z2 => first | exact rfl | assumption))
  | ((with_reducible refine' NQ.wo_ixR_t ?z1 ?z2 ?_); (case z1 => first | exact NQ.atI0 | exact NQ.atI1 | assumption); (case z2 => first | exact rfl | assumption))
  | ((with_reducible refine' NQ.wo_ix_l ?z1 ?_); (case z1 => first | exact NQ.atI0 | exact NQ.atI1 | assumption))
  | ((with_reducible refine' NQ.wo_ix_t ?z1 ?_); (case z1 => first | exact NQ.atI0 | exact NQ.atI1 | assumption))
  | ((with_reducible refine' NQ.wo_ix_s ?z1 ?z2 ?_); (case z1 => assumption); (case z2 => first | assumption | omega | (simp only [List.length_cons, List.length_nil, List.length_append, List.length_map, List.length_range, Str.length_append] <;> omega) | decide +kernel))
  | ((with_reducible refine' NQ.wo_isi ?z1 ?z2 ?_); (case z1 => first | assumption | exact rfl); (case z2 => first | assumption | exact rfl))
  | ((with_reducible refine' NQ.wo_ix_d ?z1 ?z2 ?_); (case z1 => exact rfl); (case z2 => assumption))
  | with_reducible refine NQ.wt_b ?_
  | with_reducible refine NQ.wt_i ?_
  | with_reducible refine NQ.wt_l ?_
  | with_reducible refine NQ.wt_n ?_
  | with_reducible refine NQ.wtw_b ?_
  | with_reducible refine NQ.wtw_n ?_
  | with_reducible refine NQ.wtw_i ?_
  | with_reducible refine NQ.wtw_l ?_
  | ((with_reducible refine' NQ.wt_s ?z1 ?_); (case z1 => first | assumption | omega | (simp only [List.length_cons, List.length_nil, List.length_append, List.length_map, List.length_range, Str.length_append] <;> omega) | decide +kernel))
  | ((with_reducible refine' NQ.ite_t ?z1 ?_); (case z1 => first | exact rfl | assumption | exact decide_eq_true (by assumption)))
  | ((with_reducible refine' NQ.ite_f ?z1 ?_); (case z1 => first | exact rfl | assumption | exact decide_eq_false (by assumption)))
  | with_reducible refine NQ.is_mk ?_
  | ((with_reducible refine' NQ.at_mk ?z1 ?_); (case z1 => exact rfl))
  | ((with_reducible refine' NQ.so_mk ?z1 ?_); (case z1 => first | assumption | exact rfl))
  | ((with_reducible refine' NQ.s2_mk ?z1 ?_); (case z1 => first | assumption))
  | ((with_reducible refine' NQ.so_mk (t := true) ?z1 ?_); (case z1 => decide +kernel))
  | ((with_reducible refine' NQ.so_mk (t := false) ?z1 ?_); (case z1 => decide +kernel))
  | ((with_reducible refine' NQ.sd_mk ?z1 ?_); (case z1 => first | exact rfl | assumption | omega | (simp only [List.length_cons, List.length_nil, List.length_append, List.length_map, List.length_range, NQ.sz_eq] <;> omega) | decide))
  | ((with_reducible refine' NQ.fn_mk ?z1 ?_); (case z1 => walk_at "fin"))
  | ((with_reducible refine' NQ.wf_fn ?_)))
local macro_rules | `(tactic| walk_at "ev") => `(tactic| repeat walk_at "ev1")
def top (i : Nat) : Stmt := PySem.Challenge.pw_nowlater_k11_names.main.body.getD i (.Pass ⟨0, 0, 0, 0⟩)
abbrev FnP (K : PySem.W.Frag) (x qual : Str) (st : Stmt) (f : Addr) (fd : FuncData) : Prop := FunD K x qual (defArgs st) (defBody st) (defScope st) [] [] f fd
structure Txt (K : PySem.W.Frag) (mg : Str → Option Value) : Prop where
  n_abs : mg "abs" = none
  n_bool : mg "bool" = none
  n_dict : mg "dict" = none
  n_enumerate : mg "enumerate" = none
  n_int : mg "int" = none
  n_isinstance : mg "isinstance" = none
  n_len : mg "len" = none
  n_list : mg "list" = none
  n_max : mg "max" = none
  n_min : mg "min" = none
  n_range : mg "range" = none
  n_tuple : mg "tuple" = none
  g_MOST_LINES : GV mg "MOST_LINES" (.int 60)
  g_MOST_NAMES : GV mg "MOST_NAMES" (.int 3)
  g_MOST_TOKENS : GV mg "MOST_TOKENS" (.int 60)
  g_RESERVED : GV mg "RESERVED" (.ref (He.ga K "RESERVED"))
  t_RESERVED : ∀ H : Hp, SqT K H (He.ga K "RESERVED") [.str (PySem.Str.ofString "and"), .str (PySem.Str.ofString "answer"), .str (PySem.Str.ofString "ask"), .str (PySem.Str.ofString "else"), .str (PySem.Str.ofString "end"), .str (PySem.Str.ofString "event"), .str (PySem.Str.ofString "given"), .str (PySem.Str.ofString "got"), .str (PySem.Str.ofString "handle"), .str (PySem.Str.ofString "if"), .str (PySem.Str.ofString "live"), .str (PySem.Str.ofString "none"), .str (PySem.Str.ofString "not"), .str (PySem.Str.ofString "off"), .str (PySem.Str.ofString "on"), .str (PySem.Str.ofString "open"), .str (PySem.Str.ofString "or"), .str (PySem.Str.ofString "over"), .str (PySem.Str.ofString "refuse"), .str (PySem.Str.ofString "replace"), .str (PySem.Str.ofString "request"), .str (PySem.Str.ofString "scope"), .str (PySem.Str.ofString "sent"), .str (PySem.Str.ofString "tell"), .str (PySem.Str.ofString "var")]
  g_BadProgram : GV mg "BadProgram" (.ref (He.ga K "BadProgram"))
  m_BadProgram : mg "BadProgram" = some (.ref (He.ga K "BadProgram"))
  g_Draft : GV mg "Draft" (.ref (He.ga K "Draft"))
  m_Draft : mg "Draft" = some (.ref (He.ga K "Draft"))
  g_Program : GV mg "Program" (.ref (He.ga K "Program"))
  m_Program : mg "Program" = some (.ref (He.ga K "Program"))
  c_Draft : Cls K (He.ga K "Draft")
  a_Draft_names : NoAttr K (He.ga K "Draft") "names"
  a_Draft_variables : NoAttr K (He.ga K "Draft") "variables"
  a_Draft_handles : NoAttr K (He.ga K "Draft") "handles"
  a_Draft_requests : NoAttr K (He.ga K "Draft") "requests"
  a_Draft_events : NoAttr K (He.ga K "Draft") "events"
  a_Draft_handlers : NoAttr K (He.ga K "Draft") "handlers"
  a_Draft_blocks : NoAttr K (He.ga K "Draft") "blocks"
  a_Draft_shown : NoAttr K (He.ga K "Draft") "shown"
  a_Draft_asked : NoAttr K (He.ga K "Draft") "asked"
  c_Program : Cls K (He.ga K "Program")
  a_Program_variables : NoAttr K (He.ga K "Program") "variables"
  a_Program_handles : NoAttr K (He.ga K "Program") "handles"
  a_Program_requests : NoAttr K (He.ga K "Program") "requests"
  a_Program_events : NoAttr K (He.ga K "Program") "events"
  a_Program_handlers : NoAttr K (He.ga K "Program") "handlers"
  a_Program_shown : NoAttr K (He.ga K "Program") "shown"
  x_exm : PySem.W.exmOne K (.ref (He.ga K "BadProgram")) (.ref (He.ga K "BadProgram")) = some true
  x_f : XfC K (He.ga K "BadProgram")
  x_no : PySem.W.findIn K (.ref (He.ga K "BadProgram")) "at" = some none
abbrev s_law_seed : Stmt := (top 30)
theorem sc_law_seed : FnScope ["_law_script", "_law_at", "_law_cell", "_law_mixed", "_law_k", "_law_each"] ["_law_script", "_law_at"] (defScope s_law_seed) := ⟨rfl, rfl, rfl, by decide +kernel, rfl, by decide +kernel, by decide +kernel⟩
abbrev s_law_take : Stmt := (top 31)
theorem sc_law_take : FnScope ["_law_bag", "_law_many", "_law_digit"] ["_law_bag", "_law_many"] (defScope s_law_take) := ⟨rfl, rfl, rfl, by decide +kernel, rfl, by decide +kernel, by decide +kernel⟩
abbrev s_law_of : Stmt := (top 32)
theorem sc_law_of : FnScope ["_law_bag", "_law_some"] ["_law_bag", "_law_some"] (defScope s_law_of) := ⟨rfl, rfl, rfl, by decide +kernel, rfl, by decide +kernel, by decide +kernel⟩
abbrev s_is_word : Stmt := (top 10)
theorem sc_is_word : FnScope ["token", "char"] ["token"] (defScope s_is_word) := ⟨rfl, rfl, rfl, by decide +kernel, rfl, by decide +kernel, by decide +kernel⟩
abbrev s_is_name : Stmt := (top 25)
theorem sc_is_name : FnScope ["token"] ["token"] (defScope s_is_name) := ⟨rfl, rfl, rfl, by decide +kernel, rfl, by decide +kernel, by decide +kernel⟩
abbrev s_Draft___init__ : Stmt := (inClass (top 27) 0)
theorem sc_Draft___init__ : FnScope ["self"] ["self"] (defScope s_Draft___init__) := ⟨rfl, rfl, rfl, by decide +kernel, rfl, by decide +kernel, by decide +kernel⟩
abbrev s_Draft_begin_handler : Stmt := (inClass (top 27) 3)
theorem sc_Draft_begin_handler : FnScope ["self", "tokens", "word", "name", "wanted"] ["self", "tokens"] (defScope s_Draft_begin_handler) := ⟨rfl, rfl, rfl, by decide +kernel, rfl, by decide +kernel, by decide +kernel⟩
abbrev s_Draft_take_inside : Stmt := (inClass (top 27) 4)
theorem sc_Draft_take_inside : FnScope ["self", "tokens", "block", "statement"] ["self", "tokens"] (defScope s_Draft_take_inside) := ⟨rfl, rfl, rfl, by decide +kernel, rfl, by decide +kernel, by decide +kernel⟩
abbrev s_Draft_take_outside : Stmt := (inClass (top 27) 2)
theorem sc_Draft_take_outside : FnScope ["self", "tokens", "kind", "name", "rest", "rows", "row", "fits"] ["self", "tokens"] (defScope s_Draft_take_outside) := ⟨rfl, rfl, rfl, by decide +kernel, rfl, by decide +kernel, by decide +kernel⟩
abbrev s_Draft_take : Stmt := (inClass (top 27) 1)
theorem sc_Draft_take : FnScope ["self", "tokens", "depth", "fits"] ["self", "tokens"] (defScope s_Draft_take) := ⟨rfl, rfl, rfl, by decide +kernel, rfl, by decide +kernel, by decide +kernel⟩
abbrev s_Program___init__ : Stmt := (inClass (top 28) 0)
theorem sc_Program___init__ : FnScope ["self", "lines", "draft", "at", "line", "tokens"] ["self", "lines"] (defScope s_Program___init__) := ⟨rfl, rfl, rfl, by decide +kernel, rfl, by decide +kernel, by decide +kernel⟩
abbrev s_Program_read : Stmt := (inClass (top 28) 1)
theorem sc_Program_read : FnScope ["cls", "text"] ["cls", "text"] (defScope s_Program_read) := ⟨rfl, rfl, rfl, by decide +kernel, rfl, by decide +kernel, by decide +kernel⟩
abbrev s_law_told : Stmt := (top 34)
theorem sc_law_told : FnScope ["_law_line", "_law_kind", "_law_program", "e", "_law_rows", "_law_row"] ["_law_line", "_law_kind"] (defScope s_law_told) := ⟨rfl, rfl, rfl, by decide +kernel, rfl, by decide +kernel, by decide +kernel⟩
abbrev s_law_token : Stmt := (top 33)
theorem sc_law_token : FnScope ["_law_bag", "_law_words", "_law_word", "_law_size", "_law_letters", "_law_signs", "_law_near", "_law_some", "_law_turn", "_law_odd"] ["_law_bag"] (defScope s_law_token) := ⟨rfl, rfl, rfl, by decide +kernel, rfl, by decide +kernel, by decide +kernel⟩
abbrev s_law : Stmt := (top 35)
theorem sc_law : FnScope ["_law_script", "_law_at", "_law_bag", "_law_token_here", "_law_words", "_law_odd", "_law_sign", "_law_is_due", "_law_tails", "_law_kind", "_law_told_here"] ["_law_script"] (defScope s_law) := ⟨rfl, rfl, rfl, by decide +kernel, rfl, by decide +kernel, by decide +kernel⟩
abbrev s_BadProgram___init__ : Stmt := (inClass (top 5) 0)
theorem sc_BadProgram___init__ : FnScope ["self", "at"] ["self", "at"] (defScope s_BadProgram___init__) := ⟨rfl, rfl, rfl, by decide +kernel, rfl, by decide +kernel, by decide +kernel⟩

/-- a token: signs from ! to ~, at least one -/
def Tk (t : Str) : Prop := t.cps.toList ≠ [] ∧ ∀ c ∈ t.cps.toList, 33 ≤ c ∧ c ≤ 126
def Bl (s : Str) : Prop := ∀ c ∈ s.cps.toList, c = 32
theorem sp_no : ∀ c : Nat, c ≤ 126 → 33 ≤ c → Unicode.isSpace c = false := by decide +kernel
theorem sp_yes : Unicode.isSpace 32 = true := by decide +kernel
theorem str_eq {a b : Str} (h : a.cps.toList = b.cps.toList) : a = b := Str.ext' (Array.toList_inj.mp h)
theorem scan_tok : ∀ (l : List Nat) (ws : List Str) (r : Str), (∀ c ∈ l, 33 ≤ c ∧ c ≤ 126) → l.foldl KWd.step (ws, r) = (ws, r ++ ⟨l.toArray⟩)
  | [], ws, r, _ => by
    have e : r ++ (⟨#[]⟩ : Str) = r := str_eq (by rw [Str.cps_append]; simp)
    show (ws, r) = (ws, r ++ ⟨#[]⟩)
    rw [e]
  | c :: l, ws, r, h => by
    have hc := h c (List.mem_cons_self ..)
    rw [List.foldl_cons]
    have e : KWd.step (ws, r) c = (ws, r ++ ⟨#[c]⟩) := by
      unfold KWd.step
      rw [if_neg (by rw [sp_no c hc.2 hc.1]; exact Bool.false_ne_true)]
    rw [e, scan_tok l ws _ fun d hd => h d (List.mem_cons_of_mem _ hd)]
    have e2 : r ++ (⟨#[c]⟩ : Str) ++ (⟨l.toArray⟩ : Str) = r ++ (⟨(c :: l).toArray⟩ : Str) := str_eq (by simp [Str.cps_append])
    rw [e2]
theorem scan_bl0 : ∀ (l : List Nat) (ws : List Str), (∀ c ∈ l, c = 32) → l.foldl KWd.step (ws, Str.empty) = (ws, Str.empty)
  | [], ws, _ => rfl
  | c :: l, ws, h => by
    have hc := h c (List.mem_cons_self ..)
    subst hc
    rw [List.foldl_cons]
    have e : KWd.step (ws, Str.empty) 32 = (ws, Str.empty) := by
      unfold KWd.step
      rw [if_pos sp_yes]
      rfl
    rw [e]
    exact scan_bl0 l ws fun d hd => h d (List.mem_cons_of_mem _ hd)
theorem scan_bl1 (l : List Nat) (ws : List Str) (r : Str) (h : ∀ c ∈ l, c = 32) (h0 : l ≠ []) (hr : r.length ≠ 0) : l.foldl KWd.step (ws, r) = (ws ++ [r], Str.empty) := by
  cases l with
  | nil => exact absurd rfl h0
  | cons c l =>
    have hc := h c (List.mem_cons_self ..)
    subst hc
    rw [List.foldl_cons]
    have e : KWd.step (ws, r) 32 = (ws ++ [r], Str.empty) := by
      unfold KWd.step
      rw [if_pos sp_yes, if_neg hr]
    rw [e]
    exact scan_bl0 l _ fun d hd => h d (List.mem_cons_of_mem _ hd)
theorem tk_len {t : Str} (h : Tk t) : t.length ≠ 0 := by
  intro z
  apply h.1
  have : t.cps.size = 0 := z
  simpa using this
theorem empty_app (t : Str) : Str.empty ++ t = t := str_eq (by rw [Str.cps_append]; simp [Str.empty])
theorem join_cons2 (sep x y : Str) (r : List Str) : Str.join sep (x :: y :: r) = x ++ sep ++ Str.join sep (y :: r) := rfl
theorem scan_join (sep tail : Str) (hs : Bl sep) (hs0 : sep.cps.toList ≠ []) (ht : Bl tail) : ∀ (toks ws : List Str), (∀ t ∈ toks, Tk t) → KWd.fin ((Str.join sep toks ++ tail).cps.toList.foldl KWd.step (ws, Str.empty)) = ws ++ toks
  | [], ws, _ => by
    have e : (Str.join sep [] ++ tail).cps.toList = tail.cps.toList := by
      rw [show Str.join sep [] = Str.empty from rfl, empty_app]
    rw [e, scan_bl0 _ ws ht]
    show (if Str.empty.length = 0 then ws else _) = _
    rw [if_pos (show Str.empty.length = 0 from rfl), List.append_nil]
  | [x], ws, h => by
    have hx := h x (List.mem_cons_self ..)
    rw [show Str.join sep [x] = x from rfl, Str.cps_append, Array.toList_append, List.foldl_append, scan_tok _ ws _ hx.2]
    have e : Str.empty ++ (⟨x.cps.toList.toArray⟩ : Str) = x := by rw [empty_app]
    rw [e]
    by_cases h0 : tail.cps.toList = []
    · rw [h0]
      show (if x.length = 0 then ws else ws ++ [x]) = _
      rw [if_neg (tk_len hx)]
    · rw [scan_bl1 _ ws x ht h0 (tk_len hx)]
      show (if Str.empty.length = 0 then _ else _) = _
      rw [if_pos (show Str.empty.length = 0 from rfl)]
  | x :: y :: r, ws, h => by
    have hx := h x (List.mem_cons_self ..)
    rw [join_cons2]
    have e1 : (x ++ sep ++ Str.join sep (y :: r) ++ tail).cps.toList = x.cps.toList ++ (sep.cps.toList ++ (Str.join sep (y :: r) ++ tail).cps.toList) := by
      simp [Str.cps_append]
    rw [e1, List.foldl_append, scan_tok _ ws _ hx.2, List.foldl_append]
    have e : Str.empty ++ (⟨x.cps.toList.toArray⟩ : Str) = x := by rw [empty_app]
    rw [e, scan_bl1 _ ws x hs hs0 (tk_len hx), scan_join sep tail hs hs0 ht (y :: r) (ws ++ [x]) fun t ht' => h t (List.mem_cons_of_mem _ ht')]
    simp
theorem words_join {head sep tail : Str} {toks : List Str} (hh : Bl head) (hs : Bl sep) (hs0 : sep.cps.toList ≠ []) (ht : Bl tail) (h : ∀ t ∈ toks, Tk t) : Txt.words (head ++ (Str.join sep toks ++ tail)) = toks := by
  rw [KWd.words_scan]
  unfold KWd.scan
  rw [Str.cps_append, Array.toList_append, List.foldl_append, scan_bl0 _ [] hh, scan_join sep tail hs hs0 ht toks [] h, List.nil_append]
theorem words_join0 {sep tail : Str} {toks : List Str} (hs : Bl sep) (hs0 : sep.cps.toList ≠ []) (ht : Bl tail) (h : ∀ t ∈ toks, Tk t) : Txt.words (Str.join sep toks ++ tail) = toks := by
  have := words_join (head := Str.empty) (by intro c hc; simp [Str.empty] at hc) hs hs0 ht h
  rwa [empty_app] at this
theorem join_len_le (sep : Str) (B : Nat) : ∀ (toks : List Str), (∀ t ∈ toks, t.length ≤ B) → (Str.join sep toks).length ≤ toks.length * (B + sep.length)
  | [], _ => by show 0 ≤ _; omega
  | [x], h => by
    have := h x (List.mem_cons_self ..)
    show x.length ≤ 1 * _
    omega
  | x :: y :: r, h => by
    have h1 := h x (List.mem_cons_self ..)
    have h2 := join_len_le sep B (y :: r) fun t ht => h t (List.mem_cons_of_mem _ ht)
    rw [join_cons2, Str.length_append, Str.length_append]
    have e : (x :: y :: r).length * (B + sep.length) = (y :: r).length * (B + sep.length) + (B + sep.length) := by
      rw [List.length_cons, Nat.add_mul, Nat.one_mul]
    omega
theorem sum_len_le {B : Nat} : ∀ {toks : List Str}, (∀ t ∈ toks, t.length ≤ B) → (toks.map (·.length)).sum ≤ toks.length * B
  | [], _ => by simp
  | x :: r, h => by
    have h1 := h x (List.mem_cons_self ..)
    have h2 := sum_len_le (toks := r) fun t ht => h t (List.mem_cons_of_mem _ ht)
    simp only [List.map_cons, List.sum_cons, List.length_cons, Nat.add_mul, Nat.one_mul]
    omega

noncomputable section
open NQ
abbrev cf_law_seed : Cf := cfOf [.fz, .fz] [.fz, .fz, .fz, .fz] (.all .fz)
def b_law_seed_L1 : Sf := (sSet 3 (qE (opq modT [(opq intT [(opq addR [(opq addR [(opq mulR [(eV 3), (eC (.int (30871)))]), (opq modT [(opq intT [(eV 5)]), (eC (.int (2147483423)))])]), (opq mulR [(eC (.int (211))), (eV 4)])])]), (eC (.int (2147483477)))])))
def b_law_seed : Sf := (sSeq (sSet 2 (qE (ifQ (asB (opq ltT [(eV 1), (opq lenT [(eV 0)])])) (opq ixA [(eV 0), (eV 1)]) (eC (.int (0))))))
  (sSeq (sSet 3 (qE (opq addR [(eC (.int (90481))), (opq mulR [(eC (.int (613))), (eV 1)])])))
  (sSeq (sFor (itEn (qE (opq (slL false true) [(eV 0), (eC (.int (63)))]))) (gT (gCs (gN 4) (gCs (gN 5) gNl))) b_law_seed_L1)
  (sRet (opn lstT [.val (qE (ifQ (asB (opq geT [(opq absT [(eV 2)]), (opq powT [(eC (.int (10))), (eC (.int (18)))])])) (opq absT [(eV 2)]) (eC (.int (0))))), .val (qE (eV 3))])))))
def f_law_seed : List NQ.T → Fo := fnT [.fz, .fz] 4 (.all .fz) b_law_seed
end

def sp_law_seed (K : PySem.W.Frag) : Sp := NQ.FS K [.fz, .fz] (.all .fz) f_law_seed
noncomputable section
open NQ
abbrev cf_law_take : Cf := cfOf [(.all .fz), .fz] [.fz] .fz
def b_law_take : Sf := (sSeq (sIf (qB (asB (opq gtT [(opq ixA [(eV 0), (eC (.int (0)))]), (eC (.int (0)))]))) (sSeq (sSet 2 (qE (opq modT [(opq intT [(opq ixA [(eV 0), (eC (.int (0)))])]), (eV 1)])))
  (sSeq (sSetIx 0 (eC (.int (0))) (qE (opq divT [(opq ixA [(eV 0), (eC (.int (0)))]), (eV 1)])))
  (sRet (qE (eV 2))))) sNext)
  (sSeq (sSetIx 0 (eC (.int (1))) (qE (opq modT [(opq intT [(opq addR [(opq mulA [(opq ixA [(eV 0), (eC (.int (1)))]), (eC (.int (41358)))]), (eC (.int (7717)))])]), (eC (.int (2147483497)))])))
  (sRet (qE (opq modT [(opq divT [(opq modT [(opq intT [(opq mulR [(opq divT [(opq ixA [(eV 0), (eC (.int (1)))]), (eC (.int (5)))]), (eC (.int (39373)))])]), (eC (.int (2147483543)))]), (eC (.int (16)))]), (eV 1)])))))
def f_law_take : List NQ.T → Fo := fnT [(.all .fz), .fz] 1 .fz b_law_take
end

def sp_law_take (K : PySem.W.Frag) : Sp := NQ.FS K [(.all .fz), .fz] .fz f_law_take
noncomputable section
open NQ
abbrev cf_law_of : Cf := cfOf [(.all .fz), .fz] [] .fz
def b_law_of : Sf := (sRet (opn ixA [.val (qE (eV 1)), .val (fCall [(.all .fz), .fz] f_law_take [.var 0, .val (qE (opq lenT [(eV 1)]))])]))
def f_law_of : List NQ.T → Fo := fnT [(.all .fz), .fz] 0 .fz b_law_of
end

def sp_law_of (K : PySem.W.Frag) : Sp := NQ.FS K [(.all .fz), .fz] .fz f_law_of
section
open NQ
def Bg (g : NQ.T) : Prop := ∃ a b : Int, g = .lst [.int a, .int b]
theorem sz_le {n : Nat} (h : n ≤ 100000) : n ≤ sizeLine := by unfold sizeLine; omega
theorem sz_lt {n : Nat} (h : n ≤ 100000) : n < sizeLine := by unfold sizeLine; omega
theorem take_ok {g : NQ.T} {m : Int} (h : Bg g) (hm : 0 < m) (hl : m.natAbs.log2 < 9000) : ∃ g' k, Bg g' ∧ 0 ≤ k ∧ k < m ∧ f_law_take [g, .int m] = some (.ret (.int k), [g', .int m]) := by
  obtain ⟨a, b, rfl⟩ := h
  by_cases ha : 0 < a
  · refine ⟨.lst [.int (a / m), .int b], a % m, ⟨_, _, rfl⟩, Int.emod_nonneg _ (by omega), Int.emod_lt_of_pos _ hm, ?_⟩
    simp only [ap_seq, ap_next, ap_brk, ap_cont, ap_set, ap_setN, ap_drop, ap_ret, ap_retV, ap_retN, ap_if, ap_for, ap_setIx, ap_aug, ap_asg, ap_frz, ap_no, ap_qE, ap_opq, ap_opn, ap_opnc, ap_call, ap_app, ap_eV, ap_eC, ap_ifE, ap_ifQ, ap_asB, ap_asTru, ap_asBE, ap_asTruE, ap_qB, ap_notQ, ap_andQ, ap_orQ, ap_notE, ap_andE, ap_orE, ap_andV, ap_orV, ap_andW, ap_orW, ap_chQ, ap_gN, ap_gT, ap_gNl, ap_gCs, ap_itE, ap_itR1, ap_itR2, ap_itEn, ap_lcE, ap_yes, ap_disp, ap_fn, NQ.d0, NQ.dS, if_true, if_false, reduceIte, reduceCtorEq, Nat.zero_add, Nat.reduceAdd, Nat.reduceLT, Bool.false_eq_true, Int.reducePow, Int.reduceNeg, Int.reduceLT, Int.reduceLE, Nat.reducePow, Nat.reduceLeDiff, and_self, true_and, and_true, true_or, or_true, decide_true, decide_false, Int.reduceToNat, Bool.not_true, Bool.not_false, sz_eq, Nat.reduceBEq, Nat.reduceMul, Nat.reduceEqDiff, Str.length_append, o_addi, o_adds, o_addAi, o_addL, o_addAl, o_subi, o_muli, o_muls, o_mulL, o_mulAi, o_mulAl, o_modi, o_divs, o_divi, o_pows, o_powi, o_cmp, o_neg, o_eq, o_ne, o_isN, o_notN, o_len_l, o_len_t, o_len_c, o_len_s, o_int_i, o_int_b, o_int_s, o_str_i, o_str_s, o_abs, o_max, o_min, o_list_l, o_list_t, o_list_c, o_list_s, o_tuple, o_lst, o_tup, o_disp, o_split, o_words, o_strip, o_slS1, o_slS2, o_slS3, o_slL1, o_slL2, o_slL3, o_ixR_l, o_ixR_t, o_ix_l, o_ix_t, o_ix_s, seq_l, seq_t, seq_c, it_l, it_t, it_c, it_s, tru_b, tru_i, tru_l, tru_n, tru_s, trw_b, isS_i, isS_b, isS_n, isS_s, NQ.atI0, NQ.atI1, NQ.setAt0, NQ.setAt1, NQ.rn0, NQ.rnV, NQ.rnE, NQ.ev0, NQ.evS, NQ.rs0, NQ.rsV, NQ.rsE, NQ.sk0, NQ.skV, NQ.skE, NQ.wb0, NQ.wbV, NQ.wbE, NQ.fin0, NQ.finS, NQ.isO_fz, NQ.isO_vw, NQ.isO_all, NQ.isO_opt, NQ.isO_flds, NQ.isO_row, NQ.nil_fz, NQ.nil_opt, NQ.wp0, NQ.wpS, NQ.st0, NQ.stS, NQ.mp0, NQ.mpS, NQ.ap0, NQ.apS, NQ.fl0, NQ.flS, NQ.rp0, NQ.rpS, NQ.ln0, NQ.lnS, f_law_take, b_law_take, ha, hm, hl, decide_true, and_true, true_and]
    done
  · refine ⟨.lst [.int a, .int ((b * 41358 + 7717) % 2147483497)], (b * 41358 + 7717) % 2147483497 / 5 * 39373 % 2147483543 / 16 % m, ⟨_, _, rfl⟩, Int.emod_nonneg _ (by omega), Int.emod_lt_of_pos _ hm, ?_⟩
    simp only [ap_seq, ap_next, ap_brk, ap_cont, ap_set, ap_setN, ap_drop, ap_ret, ap_retV, ap_retN, ap_if, ap_for, ap_setIx, ap_aug, ap_asg, ap_frz, ap_no, ap_qE, ap_opq, ap_opn, ap_opnc, ap_call, ap_app, ap_eV, ap_eC, ap_ifE, ap_ifQ, ap_asB, ap_asTru, ap_asBE, ap_asTruE, ap_qB, ap_notQ, ap_andQ, ap_orQ, ap_notE, ap_andE, ap_orE, ap_andV, ap_orV, ap_andW, ap_orW, ap_chQ, ap_gN, ap_gT, ap_gNl, ap_gCs, ap_itE, ap_itR1, ap_itR2, ap_itEn, ap_lcE, ap_yes, ap_disp, ap_fn, NQ.d0, NQ.dS, if_true, if_false, reduceIte, reduceCtorEq, Nat.zero_add, Nat.reduceAdd, Nat.reduceLT, Bool.false_eq_true, Int.reducePow, Int.reduceNeg, Int.reduceLT, Int.reduceLE, Nat.reducePow, Nat.reduceLeDiff, and_self, true_and, and_true, true_or, or_true, decide_true, decide_false, Int.reduceToNat, Bool.not_true, Bool.not_false, sz_eq, Nat.reduceBEq, Nat.reduceMul, Nat.reduceEqDiff, Str.length_append, o_addi, o_adds, o_addAi, o_addL, o_addAl, o_subi, o_muli, o_muls, o_mulL, o_mulAi, o_mulAl, o_modi, o_divs, o_divi, o_pows, o_powi, o_cmp, o_neg, o_eq, o_ne, o_isN, o_notN, o_len_l, o_len_t, o_len_c, o_len_s, o_int_i, o_int_b, o_int_s, o_str_i, o_str_s, o_abs, o_max, o_min, o_list_l, o_list_t, o_list_c, o_list_s, o_tuple, o_lst, o_tup, o_disp, o_split, o_words, o_strip, o_slS1, o_slS2, o_slS3, o_slL1, o_slL2, o_slL3, o_ixR_l, o_ixR_t, o_ix_l, o_ix_t, o_ix_s, seq_l, seq_t, seq_c, it_l, it_t, it_c, it_s, tru_b, tru_i, tru_l, tru_n, tru_s, trw_b, isS_i, isS_b, isS_n, isS_s, NQ.atI0, NQ.atI1, NQ.setAt0, NQ.setAt1, NQ.rn0, NQ.rnV, NQ.rnE, NQ.ev0, NQ.evS, NQ.rs0, NQ.rsV, NQ.rsE, NQ.sk0, NQ.skV, NQ.skE, NQ.wb0, NQ.wbV, NQ.wbE, NQ.fin0, NQ.finS, NQ.isO_fz, NQ.isO_vw, NQ.isO_all, NQ.isO_opt, NQ.isO_flds, NQ.isO_row, NQ.nil_fz, NQ.nil_opt, NQ.wp0, NQ.wpS, NQ.st0, NQ.stS, NQ.mp0, NQ.mpS, NQ.ap0, NQ.apS, NQ.fl0, NQ.flS, NQ.rp0, NQ.rpS, NQ.ln0, NQ.lnS, f_law_take, b_law_take, ha, hm, hl]
theorem of_ok {g x : NQ.T} {xs : List NQ.T} (h : Bg g) (hx : x = .lst xs ∨ x = .tup xs) (h0 : 0 < xs.length) (hl : xs.length ≤ 100000) : ∃ g' y, Bg g' ∧ y ∈ xs ∧ f_law_of [g, x] = some (.ret y, [g', x]) := by
  have hlog : (xs.length : Int).natAbs.log2 < 9000 := by
    rw [Int.natAbs_natCast]
    exact log_lt (by omega)
  obtain ⟨g', k, hg', k1, k2, e⟩ := take_ok h (m := xs.length) (by omega) hlog
  obtain ⟨n, rfl⟩ := Int.eq_ofNat_of_zero_le k1
  have hn : n < xs.length := by omega
  refine ⟨g', xs[n], hg', List.getElem_mem _, ?_⟩
  rcases hx with rfl | rfl <;> simp only [ap_seq, ap_next, ap_brk, ap_cont, ap_set, ap_setN, ap_drop, ap_ret, ap_retV, ap_retN, ap_if, ap_for, ap_setIx, ap_aug, ap_asg, ap_frz, ap_no, ap_qE, ap_opq, ap_opn, ap_opnc, ap_call, ap_app, ap_eV, ap_eC, ap_ifE, ap_ifQ, ap_asB, ap_asTru, ap_asBE, ap_asTruE, ap_qB, ap_notQ, ap_andQ, ap_orQ, ap_notE, ap_andE, ap_orE, ap_andV, ap_orV, ap_andW, ap_orW, ap_chQ, ap_gN, ap_gT, ap_gNl, ap_gCs, ap_itE, ap_itR1, ap_itR2, ap_itEn, ap_lcE, ap_yes, ap_disp, ap_fn, NQ.d0, NQ.dS, if_true, if_false, reduceIte, reduceCtorEq, Nat.zero_add, Nat.reduceAdd, Nat.reduceLT, Bool.false_eq_true, Int.reducePow, Int.reduceNeg, Int.reduceLT, Int.reduceLE, Nat.reducePow, Nat.reduceLeDiff, and_self, true_and, and_true, true_or, or_true, decide_true, decide_false, Int.reduceToNat, Bool.not_true, Bool.not_false, sz_eq, Nat.reduceBEq, Nat.reduceMul, Nat.reduceEqDiff, Str.length_append, o_addi, o_adds, o_addAi, o_addL, o_addAl, o_subi, o_muli, o_muls, o_mulL, o_mulAi, o_mulAl, o_modi, o_divs, o_divi, o_pows, o_powi, o_cmp, o_neg, o_eq, o_ne, o_isN, o_notN, o_len_l, o_len_t, o_len_c, o_len_s, o_int_i, o_int_b, o_int_s, o_str_i, o_str_s, o_abs, o_max, o_min, o_list_l, o_list_t, o_list_c, o_list_s, o_tuple, o_lst, o_tup, o_disp, o_split, o_words, o_strip, o_slS1, o_slS2, o_slS3, o_slL1, o_slL2, o_slL3, o_ixR_l, o_ixR_t, o_ix_l, o_ix_t, o_ix_s, seq_l, seq_t, seq_c, it_l, it_t, it_c, it_s, tru_b, tru_i, tru_l, tru_n, tru_s, trw_b, isS_i, isS_b, isS_n, isS_s, NQ.atI0, NQ.atI1, NQ.setAt0, NQ.setAt1, NQ.rn0, NQ.rnV, NQ.rnE, NQ.ev0, NQ.evS, NQ.rs0, NQ.rsV, NQ.rsE, NQ.sk0, NQ.skV, NQ.skE, NQ.wb0, NQ.wbV, NQ.wbE, NQ.fin0, NQ.finS, NQ.isO_fz, NQ.isO_vw, NQ.isO_all, NQ.isO_opt, NQ.isO_flds, NQ.isO_row, NQ.nil_fz, NQ.nil_opt, NQ.wp0, NQ.wpS, NQ.st0, NQ.stS, NQ.mp0, NQ.mpS, NQ.ap0, NQ.apS, NQ.fl0, NQ.flS, NQ.rp0, NQ.rpS, NQ.ln0, NQ.lnS, f_law_of, b_law_of, e, atI_nat hn, List.getElem?_eq_getElem hn]
theorem ab_lst {l : List Int} {n : Nat} (h : n < l.length) : atI (l.map NQ.T.int) (n : Int) = some (.int l[n]) := by
  rw [atI_nat (by simpa using h), List.getElem?_map, List.getElem?_eq_getElem h]
  rfl
theorem seed_ok {ns : List Int} {s : NQ.T} {i : Nat} (hS : Scr ns s) : ∃ g, Bg g ∧ f_law_seed [s, .int i] = some (.ret g, [s, .int i]) := by
  have L : ∀ c m, ∃ δ', forM (enT (cutT (ns.map NQ.T.int) none (some 63))) (gT (gCs (gN 4) (gCs (gN 5) gNl))) b_law_seed_L1 [some s, some (.int i), some (.int c), some (.int m), none, none] = some (.nx, δ') ∧ ∃ m' k e, δ' = [some s, some (.int i), some (.int c), some (.int m'), k, e] := fun c m => by
    refine for_all (P := fun _ δ => ∃ m' k e, δ = [some s, some (.int i), some (.int c), some (.int m'), k, e]) ⟨_, _, _, rfl⟩ ?_
    rintro n x δ hx ⟨m', k, e, rfl⟩
    obtain ⟨z, rfl⟩ : ∃ z : Int, x = .tup [.int (n : Nat), .int z] := by
      unfold enT at hx
      rw [List.getElem?_map] at hx
      cases q : (cutT (ns.map NQ.T.int) none (some 63)).zipIdx[n]? with
      | none => rw [q] at hx; cases hx
      | some p =>
        rw [q] at hx
        rw [List.getElem?_zipIdx] at q
        cases q2 : (cutT (ns.map NQ.T.int) none (some 63))[n]? with
        | none => rw [q2] at q; cases q
        | some u =>
          rw [q2] at q
          cases q
          cases hx
          have : u ∈ ns.map NQ.T.int := by
            have := List.mem_of_getElem? q2
            exact List.mem_of_mem_drop (List.mem_of_mem_take this)
          obtain ⟨z, _, rfl⟩ := List.mem_map.mp this
          exact ⟨z, by simp⟩
    refine ⟨_, rfl, ?_⟩
    simp only [ap_seq, ap_next, ap_brk, ap_cont, ap_set, ap_setN, ap_drop, ap_ret, ap_retV, ap_retN, ap_if, ap_for, ap_setIx, ap_aug, ap_asg, ap_frz, ap_no, ap_qE, ap_opq, ap_opn, ap_opnc, ap_call, ap_app, ap_eV, ap_eC, ap_ifE, ap_ifQ, ap_asB, ap_asTru, ap_asBE, ap_asTruE, ap_qB, ap_notQ, ap_andQ, ap_orQ, ap_notE, ap_andE, ap_orE, ap_andV, ap_orV, ap_andW, ap_orW, ap_chQ, ap_gN, ap_gT, ap_gNl, ap_gCs, ap_itE, ap_itR1, ap_itR2, ap_itEn, ap_lcE, ap_yes, ap_disp, ap_fn, NQ.d0, NQ.dS, if_true, if_false, reduceIte, reduceCtorEq, Nat.zero_add, Nat.reduceAdd, Nat.reduceLT, Bool.false_eq_true, Int.reducePow, Int.reduceNeg, Int.reduceLT, Int.reduceLE, Nat.reducePow, Nat.reduceLeDiff, and_self, true_and, and_true, true_or, or_true, decide_true, decide_false, Int.reduceToNat, Bool.not_true, Bool.not_false, sz_eq, Nat.reduceBEq, Nat.reduceMul, Nat.reduceEqDiff, Str.length_append, o_addi, o_adds, o_addAi, o_addL, o_addAl, o_subi, o_muli, o_muls, o_mulL, o_mulAi, o_mulAl, o_modi, o_divs, o_divi, o_pows, o_powi, o_cmp, o_neg, o_eq, o_ne, o_isN, o_notN, o_len_l, o_len_t, o_len_c, o_len_s, o_int_i, o_int_b, o_int_s, o_str_i, o_str_s, o_abs, o_max, o_min, o_list_l, o_list_t, o_list_c, o_list_s, o_tuple, o_lst, o_tup, o_disp, o_split, o_words, o_strip, o_slS1, o_slS2, o_slS3, o_slL1, o_slL2, o_slL3, o_ixR_l, o_ixR_t, o_ix_l, o_ix_t, o_ix_s, seq_l, seq_t, seq_c, it_l, it_t, it_c, it_s, tru_b, tru_i, tru_l, tru_n, tru_s, trw_b, isS_i, isS_b, isS_n, isS_s, NQ.atI0, NQ.atI1, NQ.setAt0, NQ.setAt1, NQ.rn0, NQ.rnV, NQ.rnE, NQ.ev0, NQ.evS, NQ.rs0, NQ.rsV, NQ.rsE, NQ.sk0, NQ.skV, NQ.skE, NQ.wb0, NQ.wbV, NQ.wbE, NQ.fin0, NQ.finS, NQ.isO_fz, NQ.isO_vw, NQ.isO_all, NQ.isO_opt, NQ.isO_flds, NQ.isO_row, NQ.nil_fz, NQ.nil_opt, NQ.wp0, NQ.wpS, NQ.st0, NQ.stS, NQ.mp0, NQ.mpS, NQ.ap0, NQ.apS, NQ.fl0, NQ.flS, NQ.rp0, NQ.rpS, NQ.ln0, NQ.lnS, b_law_seed_L1]
    exact ⟨_, .inl rfl, _, _, _, rfl⟩
  obtain ⟨c, hc⟩ : ∃ c : Int, (∃ h : i < ns.length, c = ns[i]) ∨ (¬ i < ns.length ∧ c = 0) := by
    by_cases h : i < ns.length
    · exact ⟨_, .inl ⟨h, rfl⟩⟩
    · exact ⟨0, .inr ⟨h, rfl⟩⟩
  obtain ⟨δ', e, m', k, e', rfl⟩ := L c (90481 + 613 * i)
  by_cases hb : 1000000000000000000 ≤ (if c < 0 then -c else c)
  · refine ⟨.lst [.int (if c < 0 then -c else c), .int m'], ⟨_, _, rfl⟩, ?_⟩
    rcases hc with ⟨h, rfl⟩ | ⟨h, rfl⟩
    · have hi : (i : Int) < (ns.length : Nat) := by omega
      simp only [ap_seq, ap_next, ap_brk, ap_cont, ap_set, ap_setN, ap_drop, ap_ret, ap_retV, ap_retN, ap_if, ap_for, ap_setIx, ap_aug, ap_asg, ap_frz, ap_no, ap_qE, ap_opq, ap_opn, ap_opnc, ap_call, ap_app, ap_eV, ap_eC, ap_ifE, ap_ifQ, ap_asB, ap_asTru, ap_asBE, ap_asTruE, ap_qB, ap_notQ, ap_andQ, ap_orQ, ap_notE, ap_andE, ap_orE, ap_andV, ap_orV, ap_andW, ap_orW, ap_chQ, ap_gN, ap_gT, ap_gNl, ap_gCs, ap_itE, ap_itR1, ap_itR2, ap_itEn, ap_lcE, ap_yes, ap_disp, ap_fn, NQ.d0, NQ.dS, if_true, if_false, reduceIte, reduceCtorEq, Nat.zero_add, Nat.reduceAdd, Nat.reduceLT, Bool.false_eq_true, Int.reducePow, Int.reduceNeg, Int.reduceLT, Int.reduceLE, Nat.reducePow, Nat.reduceLeDiff, and_self, true_and, and_true, true_or, or_true, decide_true, decide_false, Int.reduceToNat, Bool.not_true, Bool.not_false, sz_eq, Nat.reduceBEq, Nat.reduceMul, Nat.reduceEqDiff, Str.length_append, o_addi, o_adds, o_addAi, o_addL, o_addAl, o_subi, o_muli, o_muls, o_mulL, o_mulAi, o_mulAl, o_modi, o_divs, o_divi, o_pows, o_powi, o_cmp, o_neg, o_eq, o_ne, o_isN, o_notN, o_len_l, o_len_t, o_len_c, o_len_s, o_int_i, o_int_b, o_int_s, o_str_i, o_str_s, o_abs, o_max, o_min, o_list_l, o_list_t, o_list_c, o_list_s, o_tuple, o_lst, o_tup, o_disp, o_split, o_words, o_strip, o_slS1, o_slS2, o_slS3, o_slL1, o_slL2, o_slL3, o_ixR_l, o_ixR_t, o_ix_l, o_ix_t, o_ix_s, seq_l, seq_t, seq_c, it_l, it_t, it_c, it_s, tru_b, tru_i, tru_l, tru_n, tru_s, trw_b, isS_i, isS_b, isS_n, isS_s, NQ.atI0, NQ.atI1, NQ.setAt0, NQ.setAt1, NQ.rn0, NQ.rnV, NQ.rnE, NQ.ev0, NQ.evS, NQ.rs0, NQ.rsV, NQ.rsE, NQ.sk0, NQ.skV, NQ.skE, NQ.wb0, NQ.wbV, NQ.wbE, NQ.fin0, NQ.finS, NQ.isO_fz, NQ.isO_vw, NQ.isO_all, NQ.isO_opt, NQ.isO_flds, NQ.isO_row, NQ.nil_fz, NQ.nil_opt, NQ.wp0, NQ.wpS, NQ.st0, NQ.stS, NQ.mp0, NQ.mpS, NQ.ap0, NQ.apS, NQ.fl0, NQ.flS, NQ.rp0, NQ.rpS, NQ.ln0, NQ.lnS, f_law_seed, b_law_seed, hi, e, scr_len hS, scr_cut hS, scr_ix hS h, hb]
    · have hi : ¬ (i : Int) < (ns.length : Nat) := by omega
      simp only [ap_seq, ap_next, ap_brk, ap_cont, ap_set, ap_setN, ap_drop, ap_ret, ap_retV, ap_retN, ap_if, ap_for, ap_setIx, ap_aug, ap_asg, ap_frz, ap_no, ap_qE, ap_opq, ap_opn, ap_opnc, ap_call, ap_app, ap_eV, ap_eC, ap_ifE, ap_ifQ, ap_asB, ap_asTru, ap_asBE, ap_asTruE, ap_qB, ap_notQ, ap_andQ, ap_orQ, ap_notE, ap_andE, ap_orE, ap_andV, ap_orV, ap_andW, ap_orW, ap_chQ, ap_gN, ap_gT, ap_gNl, ap_gCs, ap_itE, ap_itR1, ap_itR2, ap_itEn, ap_lcE, ap_yes, ap_disp, ap_fn, NQ.d0, NQ.dS, if_true, if_false, reduceIte, reduceCtorEq, Nat.zero_add, Nat.reduceAdd, Nat.reduceLT, Bool.false_eq_true, Int.reducePow, Int.reduceNeg, Int.reduceLT, Int.reduceLE, Nat.reducePow, Nat.reduceLeDiff, and_self, true_and, and_true, true_or, or_true, decide_true, decide_false, Int.reduceToNat, Bool.not_true, Bool.not_false, sz_eq, Nat.reduceBEq, Nat.reduceMul, Nat.reduceEqDiff, Str.length_append, o_addi, o_adds, o_addAi, o_addL, o_addAl, o_subi, o_muli, o_muls, o_mulL, o_mulAi, o_mulAl, o_modi, o_divs, o_divi, o_pows, o_powi, o_cmp, o_neg, o_eq, o_ne, o_isN, o_notN, o_len_l, o_len_t, o_len_c, o_len_s, o_int_i, o_int_b, o_int_s, o_str_i, o_str_s, o_abs, o_max, o_min, o_list_l, o_list_t, o_list_c, o_list_s, o_tuple, o_lst, o_tup, o_disp, o_split, o_words, o_strip, o_slS1, o_slS2, o_slS3, o_slL1, o_slL2, o_slL3, o_ixR_l, o_ixR_t, o_ix_l, o_ix_t, o_ix_s, seq_l, seq_t, seq_c, it_l, it_t, it_c, it_s, tru_b, tru_i, tru_l, tru_n, tru_s, trw_b, isS_i, isS_b, isS_n, isS_s, NQ.atI0, NQ.atI1, NQ.setAt0, NQ.setAt1, NQ.rn0, NQ.rnV, NQ.rnE, NQ.ev0, NQ.evS, NQ.rs0, NQ.rsV, NQ.rsE, NQ.sk0, NQ.skV, NQ.skE, NQ.wb0, NQ.wbV, NQ.wbE, NQ.fin0, NQ.finS, NQ.isO_fz, NQ.isO_vw, NQ.isO_all, NQ.isO_opt, NQ.isO_flds, NQ.isO_row, NQ.nil_fz, NQ.nil_opt, NQ.wp0, NQ.wpS, NQ.st0, NQ.stS, NQ.mp0, NQ.mpS, NQ.ap0, NQ.apS, NQ.fl0, NQ.flS, NQ.rp0, NQ.rpS, NQ.ln0, NQ.lnS, f_law_seed, b_law_seed, hi, e, scr_len hS, scr_cut hS] at hb ⊢
  · refine ⟨.lst [.int 0, .int m'], ⟨_, _, rfl⟩, ?_⟩
    rcases hc with ⟨h, rfl⟩ | ⟨h, rfl⟩
    · have hi : (i : Int) < (ns.length : Nat) := by omega
      simp only [ap_seq, ap_next, ap_brk, ap_cont, ap_set, ap_setN, ap_drop, ap_ret, ap_retV, ap_retN, ap_if, ap_for, ap_setIx, ap_aug, ap_asg, ap_frz, ap_no, ap_qE, ap_opq, ap_opn, ap_opnc, ap_call, ap_app, ap_eV, ap_eC, ap_ifE, ap_ifQ, ap_asB, ap_asTru, ap_asBE, ap_asTruE, ap_qB, ap_notQ, ap_andQ, ap_orQ, ap_notE, ap_andE, ap_orE, ap_andV, ap_orV, ap_andW, ap_orW, ap_chQ, ap_gN, ap_gT, ap_gNl, ap_gCs, ap_itE, ap_itR1, ap_itR2, ap_itEn, ap_lcE, ap_yes, ap_disp, ap_fn, NQ.d0, NQ.dS, if_true, if_false, reduceIte, reduceCtorEq, Nat.zero_add, Nat.reduceAdd, Nat.reduceLT, Bool.false_eq_true, Int.reducePow, Int.reduceNeg, Int.reduceLT, Int.reduceLE, Nat.reducePow, Nat.reduceLeDiff, and_self, true_and, and_true, true_or, or_true, decide_true, decide_false, Int.reduceToNat, Bool.not_true, Bool.not_false, sz_eq, Nat.reduceBEq, Nat.reduceMul, Nat.reduceEqDiff, Str.length_append, o_addi, o_adds, o_addAi, o_addL, o_addAl, o_subi, o_muli, o_muls, o_mulL, o_mulAi, o_mulAl, o_modi, o_divs, o_divi, o_pows, o_powi, o_cmp, o_neg, o_eq, o_ne, o_isN, o_notN, o_len_l, o_len_t, o_len_c, o_len_s, o_int_i, o_int_b, o_int_s, o_str_i, o_str_s, o_abs, o_max, o_min, o_list_l, o_list_t, o_list_c, o_list_s, o_tuple, o_lst, o_tup, o_disp, o_split, o_words, o_strip, o_slS1, o_slS2, o_slS3, o_slL1, o_slL2, o_slL3, o_ixR_l, o_ixR_t, o_ix_l, o_ix_t, o_ix_s, seq_l, seq_t, seq_c, it_l, it_t, it_c, it_s, tru_b, tru_i, tru_l, tru_n, tru_s, trw_b, isS_i, isS_b, isS_n, isS_s, NQ.atI0, NQ.atI1, NQ.setAt0, NQ.setAt1, NQ.rn0, NQ.rnV, NQ.rnE, NQ.ev0, NQ.evS, NQ.rs0, NQ.rsV, NQ.rsE, NQ.sk0, NQ.skV, NQ.skE, NQ.wb0, NQ.wbV, NQ.wbE, NQ.fin0, NQ.finS, NQ.isO_fz, NQ.isO_vw, NQ.isO_all, NQ.isO_opt, NQ.isO_flds, NQ.isO_row, NQ.nil_fz, NQ.nil_opt, NQ.wp0, NQ.wpS, NQ.st0, NQ.stS, NQ.mp0, NQ.mpS, NQ.ap0, NQ.apS, NQ.fl0, NQ.flS, NQ.rp0, NQ.rpS, NQ.ln0, NQ.lnS, f_law_seed, b_law_seed, hi, e, scr_len hS, scr_cut hS, scr_ix hS h, hb]
    · have hi : ¬ (i : Int) < (ns.length : Nat) := by omega
      simp only [ap_seq, ap_next, ap_brk, ap_cont, ap_set, ap_setN, ap_drop, ap_ret, ap_retV, ap_retN, ap_if, ap_for, ap_setIx, ap_aug, ap_asg, ap_frz, ap_no, ap_qE, ap_opq, ap_opn, ap_opnc, ap_call, ap_app, ap_eV, ap_eC, ap_ifE, ap_ifQ, ap_asB, ap_asTru, ap_asBE, ap_asTruE, ap_qB, ap_notQ, ap_andQ, ap_orQ, ap_notE, ap_andE, ap_orE, ap_andV, ap_orV, ap_andW, ap_orW, ap_chQ, ap_gN, ap_gT, ap_gNl, ap_gCs, ap_itE, ap_itR1, ap_itR2, ap_itEn, ap_lcE, ap_yes, ap_disp, ap_fn, NQ.d0, NQ.dS, if_true, if_false, reduceIte, reduceCtorEq, Nat.zero_add, Nat.reduceAdd, Nat.reduceLT, Bool.false_eq_true, Int.reducePow, Int.reduceNeg, Int.reduceLT, Int.reduceLE, Nat.reducePow, Nat.reduceLeDiff, and_self, true_and, and_true, true_or, or_true, decide_true, decide_false, Int.reduceToNat, Bool.not_true, Bool.not_false, sz_eq, Nat.reduceBEq, Nat.reduceMul, Nat.reduceEqDiff, Str.length_append, o_addi, o_adds, o_addAi, o_addL, o_addAl, o_subi, o_muli, o_muls, o_mulL, o_mulAi, o_mulAl, o_modi, o_divs, o_divi, o_pows, o_powi, o_cmp, o_neg, o_eq, o_ne, o_isN, o_notN, o_len_l, o_len_t, o_len_c, o_len_s, o_int_i, o_int_b, o_int_s, o_str_i, o_str_s, o_abs, o_max, o_min, o_list_l, o_list_t, o_list_c, o_list_s, o_tuple, o_lst, o_tup, o_disp, o_split, o_words, o_strip, o_slS1, o_slS2, o_slS3, o_slL1, o_slL2, o_slL3, o_ixR_l, o_ixR_t, o_ix_l, o_ix_t, o_ix_s, seq_l, seq_t, seq_c, it_l, it_t, it_c, it_s, tru_b, tru_i, tru_l, tru_n, tru_s, trw_b, isS_i, isS_b, isS_n, isS_s, NQ.atI0, NQ.atI1, NQ.setAt0, NQ.setAt1, NQ.rn0, NQ.rnV, NQ.rnE, NQ.ev0, NQ.evS, NQ.rs0, NQ.rsV, NQ.rsE, NQ.sk0, NQ.skV, NQ.skE, NQ.wb0, NQ.wbV, NQ.wbE, NQ.fin0, NQ.finS, NQ.isO_fz, NQ.isO_vw, NQ.isO_all, NQ.isO_opt, NQ.isO_flds, NQ.isO_row, NQ.nil_fz, NQ.nil_opt, NQ.wp0, NQ.wpS, NQ.st0, NQ.stS, NQ.mp0, NQ.mpS, NQ.ap0, NQ.apS, NQ.fl0, NQ.flS, NQ.rp0, NQ.rpS, NQ.ln0, NQ.lnS, f_law_seed, b_law_seed, hi, e, scr_len hS, scr_cut hS, hb]
end


theorem tl_mk (s : Str) : (⟨(TL.tl s).toArray⟩ : Str) = s := str_eq rfl
theorem map_tl {a b : List Str} (h : a.map TL.tl = b.map TL.tl) : a = b := by
  have e : ∀ l : List Str, (l.map TL.tl).map (fun x => (⟨x.toArray⟩ : Str)) = l := fun l => by
    rw [List.map_map]
    conv => rhs; rw [← List.map_id l]
    exact List.map_congr_left fun s _ => tl_mk s
  rw [← e a, ← e b, h]
theorem join_tl (s : Str) : ∀ toks : List Str, TL.tl (Str.join s toks) = TL.joinL (TL.tl s) (toks.map TL.tl)
  | [] => rfl
  | [x] => rfl
  | x :: y :: r => by
    rw [join_cons2]
    have ih := join_tl s (y :: r)
    show (x ++ s ++ Str.join s (y :: r)).cps.toList = x.cps.toList ++ (s.cps.toList ++ TL.joinL (TL.tl s) ((y :: r).map TL.tl))
    rw [← ih, Str.cps_append, Str.cps_append]
    simp
theorem split_join {s : Str} {c : Nat} {r : List Nat} (hs : TL.tl s = c :: r) (h256 : ∀ x ∈ TL.tl s, x < 256) {toks : List Str} (h0 : toks ≠ []) (h : ∀ t ∈ toks, c ∉ TL.tl t) : Txt.split (Str.join s toks) s = toks := by
  refine map_tl ?_
  have hk : Builtin.Str.strKind s = 1 := by
    unfold Builtin.Str.strKind
    rw [if_pos]
    rw [← Array.all_toList, List.all_eq_true]
    intro x hx
    exact decide_eq_true (h256 x hx)
  have hk2 : ¬ Builtin.Str.strKind (Str.join s toks) < Builtin.Str.strKind s := by
    rw [hk]
    unfold Builtin.Str.strKind
    split
    · omega
    · split <;> omega
  rw [TL.split_spl _ _ (by rw [hs]; simp) hk2, join_tl, hs]
  exact TL.spl_join (by simp [h0]) fun p hp => by
    obtain ⟨t, ht, rfl⟩ := List.mem_map.mp hp
    exact h t ht


def lets : Str := "abcdefghijklmnopqrstuvwxyz"
def isWd (t : Str) : Bool := !(decide (t = "") || decide (8 < (t.length : Int))) && (t.cps.toList.all fun c => decide (c ∈ lets.cps.toList))
def resW : List Str := ["and", "answer", "ask", "else", "end", "event", "given", "got", "handle", "if", "live", "none", "not", "off", "on", "open", "or", "over", "refuse", "replace", "request", "scope", "sent", "tell", "var"]
def isNm (t : Str) : Bool := isWd t && !decide (t ∈ resW)
theorem all_take_succ {l : List Nat} {i : Nat} {c : Nat} {f : Nat → Bool} (h : l[i]? = some c) (hc : f c = true) (ha : (l.take i).all f = true) : (l.take (i + 1)).all f = true := by
  rw [List.take_succ, h, List.all_append, ha]
  simp [hc]
theorem all_no {l : List Nat} {i : Nat} {c : Nat} {f : Nat → Bool} (h : l[i]? = some c) (hc : f c = false) : l.all f = false := by
  rw [List.all_eq_false]
  exact ⟨c, List.mem_of_getElem? h, by simp [hc]⟩
inductive Kd where
  | var | hnd | req | evt
  deriving DecidableEq
def Kd.s : Kd → Str
  | .var => "var" | .hnd => "handle" | .req => "request" | .evt => "event"
def Kd.tail : Kd → List Str
  | .var => ["1"] | .hnd => [] | .req => ["0", "replace"] | .evt => ["3"]
def Kd.sel (v h r e : Addr) : Kd → Addr
  | .var => v | .hnd => h | .req => r | .evt => e
def Kd.row (t : Str) : Kd → PyData
  | .var => .tuple [.str t, .int 1] | .hnd => .str t | .req => .tuple [.str t, .int 0, .str "replace"] | .evt => .tuple [.str t, .int 3]
/-- the rows of the kind j, where t was declared as a k -/
def rowsK (t : Str) (k j : Kd) : List PyData := if k = j then [k.row t] else []
abbrev drF (n v h r e hs bl sh : Addr) (k : Int) : List (Str × V) := [("names", .ref n), ("variables", .ref v), ("handles", .ref h), ("requests", .ref r), ("events", .ref e), ("handlers", .ref hs), ("blocks", .ref bl), ("shown", .ref sh), ("asked", .int k)]

def sp_is_word (K : PySem.W.Frag) : Sp := fun vs H Q _ => ∃ t : Str, vs = [.str t] ∧ t.length ≤ 10000 ∧ Q (.bl (isWd t)) H
def sp_is_name (K : PySem.W.Frag) : Sp := fun vs H Q _ => ∃ t : Str, vs = [.str t] ∧ t.length ≤ 10000 ∧ Q (.bl (isNm t)) H

/-- a new draft at x -/
structure Fd (K : PySem.W.Frag) (H : Hp) (x n v h r e hs bl sh : Addr) : Prop where
  px : ∃ dx, H x = some (.ins (He.ga K "Draft") dx (drF n v h r e hs bl sh 0))
  pn : H n = some (.dK [])
  pv : H v = some (.lst [])
  ph : H h = some (.lst [])
  pr : H r = some (.lst [])
  pe : H e = some (.lst [])
  phs : H hs = some (.dK [])
  pbl : H bl = some (.lst [])
  psh : H sh = some (.lst [])
  nd : [v, h, r, e, bl, sh].Nodup
  nh : hs ≠ n


theorem dstep {H H' : Hp} {p x : Addr} {o o' : HO} (h : upd (upd H p o) x o' = H') (hp : H p = none) (hx : H x ≠ none) : Ed [x] H H' ∧ H' x = some o' ∧ H' p = some o ∧ p ≠ x := by
  subst h
  have ne : p ≠ x := fun z => hx (by rw [← z]; exact hp)
  exact ⟨⟨fun a u n e => by rw [upd_ne (fun z => n (List.mem_singleton.mpr z)), upd_ne (ne_of_none e hp)]; exact e, fun a z => by
    by_cases q : a = x
    · rw [q, upd_same]; exact fun z => nomatch z
    · rw [upd_ne q, upd_ne (fun w => z (by rw [w]; exact hp))]; exact z⟩, upd_same, by rw [upd_ne ne]; exact upd_same, ne⟩
theorem al_of {H : Hp} {a : Addr} {o : HO} (h : H a = some o) : H a ≠ none := by rw [h]; exact fun z => nomatch z

def sp_Draft___init__ (K : PySem.W.Frag) : Sp := fun vs H Q _ => ∃ (x dx : Addr), vs = [.ref x] ∧ H x = some (.ins (He.ga K "Draft") dx []) ∧
  ∀ (n v h r e hs bl sh : Addr) (H' : Hp), Fd K H' x n v h r e hs bl sh → (∀ a ∈ [n, v, h, r, e, hs, bl, sh], H a = none) → Ed [x] H H' → Q .non H'
def sp_Draft_begin_handler (K : PySem.W.Frag) : Sp := fun vs H Q _ => ∃ x y : V, vs = [x, y] ∧ False
def sp_Draft_take_inside (K : PySem.W.Frag) : Sp := fun vs H Q _ => ∃ x y : V, vs = [x, y] ∧ False

def GoodT (k : Kd) (rest : List Str) : Prop := rest.length ≤ 5 ∧ (∀ t ∈ rest, t.length ≤ 100) ∧ ∀ t r, rest = t :: r → isNm t = true → r = k.tail
def nmOf (rest : List Str) : Bool := match rest with
  | t :: _ => isNm t
  | [] => false
theorem Fd.ed {K : PySem.W.Frag} {H H' : Hp} {x n v h r e hs bl sh : Addr} (F : Fd K H x n v h r e hs bl sh) (q : Ed [] H H') : Fd K H' x n v h r e hs bl sh := by
  obtain ⟨⟨dx, hx⟩, hn, hv, hh, hr', he, hhs, hbl, hsh, nd', nh⟩ := F
  have g : ∀ {a : Addr} {o : HO}, H a = some o → H' a = some o := fun z => q.1 _ _ List.not_mem_nil z
  exact ⟨⟨dx, g hx⟩, g hn, g hv, g hh, g hr', g he, g hhs, g hbl, g hsh, nd', nh⟩
theorem Kd.not_on (k : Kd) : k.s ∉ (["on", "answer"] : List Str) := by cases k <;> decide +kernel
/-- t is declared as a k: the rows of the four kinds -/
structure Rws (W : List Addr) (H : Hp) (v h r e : Addr) (t : Str) (k : Kd) : Prop where
  rv : Df W H (.ref v) (.list (rowsK t k .var))
  rh : Df W H (.ref h) (.list (rowsK t k .hnd))
  rr : Df W H (.ref r) (.list (rowsK t k .req))
  re : Df W H (.ref e) (.list (rowsK t k .evt))

def sp_Draft_take_outside (K : PySem.W.Frag) : Sp := fun vs H Q _ => ∃ (W : List Addr) (x tp n v h r e hs bl sh : Addr) (k : Kd) (rest : List Str), vs = [.ref x, .ref tp] ∧ Fd K H x n v h r e hs bl sh ∧ H tp = some (.lst ((k.s :: rest).map V.str)) ∧ Wl W H ∧ (∀ a ∈ [v, h, r, e], a ∉ W) ∧ GoodT k rest ∧
  (∀ H', nmOf rest = false → Ed [] H H' → Q (.bl false) H') ∧ (∀ t H', rest = t :: k.tail → isNm t = true → Rws W H' v h r e t k → Ed [n, v, h, r, e] H H' → Q (.bl true) H')

theorem mulOk_small {x : Str} {n : Int} (h0 : 0 ≤ n) (h1 : n ≤ 1000) (hx : x.length ≤ 1000) : MulOk x n := by
  refine ⟨by simp; omega, fun h2 _ => ?_, fun h2 _ => ?_⟩
  · have hpos : 0 < n := by omega
    have hle : (2 ^ 63 - 1 : Int) / 1000 ≤ (2 ^ 63 - 1) / n := by
      apply Int.le_ediv_of_mul_le hpos
      have : (2 ^ 63 - 1 : Int) / 1000 * n ≤ (2 ^ 63 - 1) / 1000 * 1000 := Int.mul_le_mul_of_nonneg_left h1 (by decide)
      omega
    have : (2 ^ 63 - 1 : Int) / 1000 = 9223372036854775 := by decide
    omega
  · unfold Builtin.Str.tooLong
    have : x.length * n.toNat ≤ 1000 * 1000 := Nat.mul_le_mul hx (by omega)
    simp [sizeLine_eq]
    omega
theorem join_txt (a : Str) (xs : List Str) : Txt.join a xs = Str.join a xs := StrLaws.glued_eq_join _ _
/-- the draft behind one good line -/
structure Gd (K : PySem.W.Frag) (W : List Addr) (H : Hp) (x n v h r e hs bl sh : Addr) (t : Str) (k : Kd) : Prop where
  px : ∃ dx, H x = some (.ins (He.ga K "Draft") dx (drF n v h r e hs bl sh 0))
  rw : Rws W H v h r e t k
  phs : H hs = some (.dK [])
  pbl : H bl = some (.lst [])
  psh : ∃ s : Str, H sh = some (.lst [.str s])
theorem Kd.not_end (k : Kd) : k.s ∉ (["else", "end"] : List Str) := by cases k <;> decide +kernel
theorem Kd.len (k : Kd) : k.s.length ≤ 10 := by cases k <;> decide +kernel
theorem not_in5 {H : Hp} {a n v h r e : Addr} {o : HO} (hn : H n = some (.dK [])) (hv : H v = some (.lst [])) (hh : H h = some (.lst [])) (hr : H r = some (.lst [])) (he : H e = some (.lst [])) (ha : H a = some o) (h1 : o ≠ .dK []) (h2 : o ≠ .lst []) : a ∉ [n, v, h, r, e] := by
  simp only [List.mem_cons, List.not_mem_nil, or_false]
  rintro (z | z | z | z | z) <;> subst z
  · rw [hn] at ha; exact h1 (Option.some.inj ha).symm
  all_goals first
    | (rw [hv] at ha; exact h2 (Option.some.inj ha).symm)
    | (rw [hh] at ha; exact h2 (Option.some.inj ha).symm)
    | (rw [hr] at ha; exact h2 (Option.some.inj ha).symm)
    | (rw [he] at ha; exact h2 (Option.some.inj ha).symm)

def sp_Draft_take (K : PySem.W.Frag) : Sp := fun vs H Q _ => ∃ (W : List Addr) (x tp n v h r e hs bl sh : Addr) (k : Kd) (rest : List Str), vs = [.ref x, .ref tp] ∧ Fd K H x n v h r e hs bl sh ∧ H tp = some (.lst ((k.s :: rest).map V.str)) ∧ Wl W H ∧ (∀ a ∈ [v, h, r, e], a ∉ W) ∧ GoodT k rest ∧
  (∀ H', nmOf rest = false → Ed [sh] H H' → Q (.bl false) H') ∧ (∀ t H', rest = t :: k.tail → isNm t = true → Gd K W H' x n v h r e hs bl sh t k → Ed [n, v, h, r, e, sh] H H' → Q (.bl true) H')

/-- the program of one declaration -/
structure Pg (K : PySem.W.Frag) (W : List Addr) (H : Hp) (x : Addr) (t : Str) (k : Kd) : Prop where
  ex : ∃ dx v h r e hs sh, H x = some (.ins (He.ga K "Program") dx [("variables", .ref v), ("handles", .ref h), ("requests", .ref r), ("events", .ref e), ("handlers", .ref hs), ("shown", .ref sh)]) ∧
    Df W H (.ref v) (.tuple (rowsK t k .var)) ∧ Df W H (.ref h) (.tuple (rowsK t k .hnd)) ∧ Df W H (.ref r) (.tuple (rowsK t k .req)) ∧ Df W H (.ref e) (.tuple (rowsK t k .evt))
theorem new_tp {W : List Addr} {H H' : Hp} {x p : Addr} {xs : List V} {ds : List PyData} {o' : HO} (h : upd (upd H p (.tup xs)) x o' = H') (hp : H p = none) (r : DfAll (x :: W) H xs ds) (w : Wl (x :: W) H) : Df (x :: W) H' (.ref p) (.tuple ds) := by
  obtain ⟨e, _, g, _⟩ := dstep h hp (w x (List.mem_cons_self ..))
  exact .tup (w.not hp) g (r.ed e (sub1 (List.mem_cons_self ..)))

def sp_Program___init__ (K : PySem.W.Frag) : Sp := fun vs H Q E => ∃ (W : List Addr) (x dx lp : Addr) (line : Str) (k : Kd) (rest : List Str), vs = [.ref x, .ref lp] ∧ H x = some (.ins (He.ga K "Program") dx []) ∧ H lp = some (.lst [.str line]) ∧ Wl W H ∧ x ∉ W ∧ line.length ≤ 1000 ∧ Txt.words line = k.s :: rest ∧ GoodT k rest ∧
  (∀ d H', nmOf rest = false → Ed [] H H' → H' d = some (.xd [("at", .int 0)]) → E (.ref (He.ga K "BadProgram")) (some d) H') ∧ (∀ t H', rest = t :: k.tail → isNm t = true → Pg K W H' x t k → Ed [x] H H' → Q .non H')

theorem split_line {line : Str} (h : ∀ c ∈ line.cps.toList, c ≠ 10) : Txt.split line "\n" = [line] :=
  split_join (s := "\n") (c := 10) (r := []) (toks := [line]) (by decide +kernel) (by decide +kernel) (by simp) fun t ht z => by
    rw [List.mem_singleton.mp ht] at z
    exact h 10 z rfl

def sp_Program_read (K : PySem.W.Frag) : Sp := fun vs H Q E => ∃ (W : List Addr) (line : Str) (k : Kd) (rest : List Str), vs = [.ref (He.ga K "Program"), .str line] ∧ Wl W H ∧ line.length ≤ 1000 ∧ (∀ c ∈ line.cps.toList, c ≠ 10) ∧ Txt.words line = k.s :: rest ∧ GoodT k rest ∧
  (∀ d H', nmOf rest = false → Ed [] H H' → H' d = some (.xd [("at", .int 0)]) → E (.ref (He.ga K "BadProgram")) (some d) H') ∧ (∀ x t H', rest = t :: k.tail → isNm t = true → Pg K W H' x t k → Ed [] H H' → Q (.ref x) H')

abbrev rwK (v r e : Addr) : List (Key × V) := [(.inr "var", .ref v), (.inr "request", .ref r), (.inr "event", .ref e)]
theorem kd_ne : ("var" : Str) ≠ "request" ∧ ("var" : Str) ≠ "event" ∧ ("request" : Str) ≠ "event" := by decide +kernel
theorem inr_ne {a b : Str} (h : a ≠ b) : ¬ (Sum.inr a : Key) = Sum.inr b := fun z => h (Sum.inr.inj z)
theorem rwK_eq {v r e : Addr} : mergeK [] (rwK v r e) = rwK v r e := by
  obtain ⟨a1, a2, a3⟩ := kd_ne
  simp [rwK, mergeK, putK, inr_ne a1, inr_ne a2, inr_ne a3]
theorem rwK_val {v r e : Addr} : valV (mergeK [] (rwK v r e)) (.inr "var") = some (.ref v) ∧ valV (mergeK [] (rwK v r e)) (.inr "request") = some (.ref r) ∧ valV (mergeK [] (rwK v r e)) (.inr "event") = some (.ref e) := by
  obtain ⟨a1, a2, a3⟩ := kd_ne
  rw [rwK_eq]
  exact ⟨by simp [rwK, valV], by simp [rwK, valV, inr_ne a1], by simp [rwK, valV, inr_ne a2, inr_ne a3]⟩

section
open NQ
def toldT (line : Str) : NQ.T := match Txt.words line with
  | _ :: t :: _ => if isNm t = true then .lst [.str t] else .int 0
  | _ => .int 0
def ToldOk (line kd : Str) : Prop := ∃ (k : Kd) (rest : List Str), kd = k.s ∧ line.length ≤ 1000 ∧ (∀ c ∈ line.cps.toList, c ≠ 10) ∧ Txt.words line = k.s :: rest ∧ GoodT k rest
open Classical in
noncomputable def f_law_told : List NQ.T → NQ.Fo
  | [.str line, .str kd] => if ToldOk line kd then some (.ret (toldT line), [.str line, .str kd]) else none
  | _ => none
theorem told_eq {line kd : Str} (h : ToldOk line kd) : f_law_told [.str line, .str kd] = some (.ret (toldT line), [.str line, .str kd]) := if_pos h
theorem ed_noA {H H' : Hp} (e : NL.Ed [] H H') : NQ.EdP NQ.noA H H' := (NQ.EdP.ed e).weak fun _ z => absurd z List.not_mem_nil
theorem told_of {K : PySem.W.Frag} {vs : List V} {H : Hp} {Q : VK} {E : XK} (h : NQ.FS K [.fz, .fz] .fz f_law_told vs H Q E) : ∃ (W : List Addr) (line : Str) (k : Kd) (rest : List Str), vs = [.str line, .str k.s] ∧ Wl W H ∧ line.length ≤ 1000 ∧ (∀ c ∈ line.cps.toList, c ≠ 10) ∧ Txt.words line = k.s :: rest ∧ GoodT k rest ∧
  (∀ H', nmOf rest = false → NL.Ed [] H H' → Q (.int 0) H') ∧ (∀ t p H', rest = t :: k.tail → isNm t = true → H p = none → NL.Df W H' (.ref p) (.list [.str t]) → NL.Ed [] H H' → Q (.ref p) H') := by
  obtain ⟨hv, W, Fm, ts, hl, fr, kg⟩ := h
  rcases ts with _ | ⟨a, _ | ⟨b, _ | ⟨_, _⟩⟩⟩ <;> simp at hl
  rcases vs with _ | ⟨v1, _ | ⟨v2, _ | ⟨_, _⟩⟩⟩ <;> simp at hv
  have key : ∃ line kd, a = .str line ∧ b = .str kd ∧ ToldOk line kd ∧ NQ.Kg K [.fz, .fz] .fz W Fm [v1, v2] H (some (.ret (toldT line), [.str line, .str kd])) Q E := by
    cases a <;> try exact kg.elim
    cases b <;> try exact kg.elim
    rename_i line kd
    by_cases z : ToldOk line kd
    · rw [told_eq z] at kg
      exact ⟨line, kd, rfl, rfl, z, kg⟩
    · have e0 : f_law_told [.str line, .str kd] = none := if_neg z
      rw [e0] at kg
      exact kg.elim
  obtain ⟨line, kd, rfl, rfl, ⟨k, rest, rfl, h1, h2, h3, h4⟩, kg⟩ := key
  obtain ⟨w1, e1, r1⟩ := fr.rel 0 _ rfl
  obtain ⟨w2, e2, r2⟩ := fr.rel 1 _ rfl
  cases e1
  cases e2
  obtain ⟨rfl, sok⟩ := r1.fz.1.rp.str
  obtain ⟨rfl, _⟩ := r2.fz.1.rp.str
  refine ⟨[], line, k, rest, rfl, (fun _ z => absurd z List.not_mem_nil), h1, h2, h3, h4, fun H' hn e => ?_, fun t p H' hr ht hp hd e => ?_⟩
  · have e0 := ed_noA e
    have et : toldT line = .int 0 := by
      unfold toldT
      rw [h3]
      cases rest with
      | nil => rfl
      | cons t r => simp only [show isNm t = false from hn, Bool.false_eq_true, if_false]
    rw [et] at kg
    exact kg (.int 0) H' Fm [] (fr.ed0 e0) (.fz (.sc rfl)) ⟨e0.weak fun _ z => z.elim, fun a z => z.elim (fun w => absurd w List.not_mem_nil) .inl⟩
  · have e0 := ed_noA e
    have et : toldT line = .lst [.str t] := by
      unfold toldT
      rw [h3, hr]
      simp only [ht, if_true]
    rw [et] at kg
    have st : PyData.strOk t = true := words_sok sok t (by rw [h3, hr]; simp)
    refine kg (.ref p) H' Fm [] (fr.ed0 e0) (.fz ?_) ⟨e0.weak fun _ z => z.elim, fun a z => z.elim (fun w => absurd w List.not_mem_nil) .inl⟩
    obtain ⟨xs, _, c1, c2⟩ := hd.cells
    cases c2 with
    | cons c2 c3 =>
      cases c3
      obtain rfl := c2.isStr
      exact .nd (fun z => fr.al p (z.imp (fun z => z) id) hp) (.inl c1) (.cons (.sc ⟨rfl, st⟩) .nil)
end

def sp_law_told (K : PySem.W.Frag) : Sp := NQ.FS K [.fz, .fz] .fz f_law_told
theorem n_law_token_0 : ("and answer ask else end event given got handle if live none not off on open or over refuse replace" : Str).length = 98 := by decide +kernel
theorem n_law_token_1 : ("abcdefghijklmnopqrstuvwxyz" : Str).length = 26 := by decide +kernel
theorem n_law_token_2 : (" " : Str).length = 1 := by decide +kernel
theorem n_law_token_3 : ("{|}~" : Str).length = 4 := by decide +kernel
theorem n_law_token_4 : ("!\"#$&'()*+,-./0123456789:;<=>?@ABCDEFGHIJKLMNOPQRSTUVWXYZ[]^_`" : Str).length = 62 := by decide +kernel
theorem n_law_token_5 : ("" : Str).length = 0 := by decide +kernel
theorem n_law_token_6 : (" request scope sent tell var" : Str).length = 28 := by decide +kernel
theorem n_law_token_7 : ("late" : Str).length = 4 := by decide +kernel
theorem n_law_token_8 : ("a1" : Str).length = 2 := by decide +kernel
theorem n_law_token_9 : ("\\" : Str).length = 1 := by decide +kernel
theorem n_law_token_10 : ("x" : Str).length = 1 := by decide +kernel
noncomputable section
open NQ
abbrev cf_law_token : Cf := cfOf [(.all .fz)] [.fz, .fz, .fz, .fz, .fz, .fz, .fz, .fz, .fz] .fz
def b_law_token_C1 : Dl → Rs := (fCall [(.all .fz), .fz] f_law_of [.var 0, .val (qE (opq listA [(eV 4)]))])
def b_law_token_C2 : Dl → Rs := (fCall [(.all .fz), .fz] f_law_of [.var 0, .val (qE (opq addL [(opq addL [(opq listA [(eV 4)]), (opq listA [(eV 4)])]), (opq listA [(eV 5)])]))])
def b_law_token : Sf := (sSeq (sSet 1 (qE (eC (.str "and answer ask else end event given got handle if live none not off on open or over refuse replace"))))
  (sSeq (sSet 1 (qE (opq splitT [(opq addR [(eV 1), (eC (.str " request scope sent tell var"))]), (eC (.str " "))])))
  (sSeq (sSet 2 (fCall [(.all .fz), .fz] f_law_of [.var 0, .val (qE (eV 1))]))
  (sSeq (sSet 3 (fCall [(.all .fz), .fz] f_law_of [.var 0, .val (qE (opq lstT [(eC (.int (1))), (eC (.int (1))), (eC (.int (2))), (eC (.int (3))), (eC (.int (8))), (eC (.int (8))), (eC (.int (9)))]))]))
  (sSeq (sSet 4 (qE (eC (.str "abcdefghijklmnopqrstuvwxyz"))))
  (sSeq (sSet 5 (qE (opq addR [(opq addR [(eC (.str "!\"#$&'()*+,-./0123456789:;<=>?@ABCDEFGHIJKLMNOPQRSTUVWXYZ[]^_`")), (eV 4)]), (eC (.str "{|}~"))])))
  (sSeq (sSet 6 (opn lstT [.val (qE (eV 2)), .val (qE (eV 2)), .val (opn addR [.val (qE (eV 2)), .val (fCall [(.all .fz), .fz] f_law_of [.var 0, .val (qE (opq listA [(eV 4)]))])]), .val (qE (opq (slS true false) [(eV 2), (eC (.int (1)))])), .val (qE (opq (slS false true) [(eV 2), (opq negT [(eC (.int (1)))])]))]))
  (sSeq (sSet 7 (opn mulL [.val (opn lstT [.val (opnc joinT [.val (qE (eC (.str ""))), .val (lcE (itR1 (qE (eV 3))) (gN 8) yesB b_law_token_C1 [8])])]), .val (qE (eC (.int (3))))]))
  (sSeq (sSet 9 (opnc joinT [.val (qE (eC (.str ""))), .val (lcE (itR1 (qE (eV 3))) (gN 8) yesB b_law_token_C2 [8])]))
  (sRet (opn tupT [.val (fCall [(.all .fz), .fz] f_law_of [.var 0, .val (qE (opq addL [(opq addL [(eV 6), (eV 7)]), (opq lstT [(eV 9), (eC (.str "")), (eC (.str "late")), (opq mulR [(eC (.str "x")), (eC (.int (8)))]), (opq mulR [(eC (.str "x")), (eC (.int (9)))]), (eC (.str "a1")), (eC (.str "\\"))])]))]), .val (qE (eV 1))])))))))))))
def f_law_token : List NQ.T → Fo := fnT [(.all .fz)] 9 .fz b_law_token
end

def sp_law_token (K : PySem.W.Frag) : Sp := NQ.FS K [(.all .fz)] .fz f_law_token

def tokB (t : Str) : Bool := t.cps.toList.all (fun c => decide (33 ≤ c) && decide (c ≤ 126)) && decide (t.length ≤ 20)
def Ch (s : Str) : Prop := ∃ c, s = ⟨#[c]⟩ ∧ 33 ≤ c ∧ c ≤ 126
theorem tok_in {t : Str} : tokB t = true ↔ (∀ c ∈ t.cps.toList, 33 ≤ c ∧ c ≤ 126) ∧ t.length ≤ 20 := by
  unfold tokB
  rw [Bool.and_eq_true, List.all_eq_true, decide_eq_true_eq]
  exact and_congr (forall_congr' fun c => imp_congr Iff.rfl (by rw [Bool.and_eq_true, decide_eq_true_eq, decide_eq_true_eq])) Iff.rfl
theorem sgn_ch {x : Str} (h : (x.cps.toList.all fun c => decide (33 ≤ c) && decide (c ≤ 126)) = true) : ∀ s ∈ sgn x, Ch s := fun s hs => by
  obtain ⟨c, hc, rfl⟩ := List.mem_map.mp hs
  have := List.all_eq_true.mp h c hc
  simp at this
  exact ⟨c, rfl, this.1, this.2⟩
theorem join_e : ∀ {ss : List Str}, (∀ s ∈ ss, Ch s) → (∀ c ∈ (Str.join "" ss).cps.toList, 33 ≤ c ∧ c ≤ 126) ∧ (Str.join "" ss).length = ss.length
  | [], _ => ⟨fun c hc => by simp [Str.join, Str.empty] at hc, rfl⟩
  | [x], h => by
    obtain ⟨c, rfl, h1, h2⟩ := h x (List.mem_cons_self ..)
    exact ⟨fun d hd => by simp [Str.join] at hd; omega, rfl⟩
  | x :: y :: r, h => by
    obtain ⟨c, rfl, h1, h2⟩ := h x (List.mem_cons_self ..)
    obtain ⟨k1, k2⟩ := join_e (ss := y :: r) fun s hs => h s (List.mem_cons_of_mem _ hs)
    rw [join_cons2]
    refine ⟨fun d hd => ?_, ?_⟩
    · rw [Str.cps_append, Str.cps_append] at hd
      simp only [Array.toList_append, List.mem_append] at hd
      rcases hd with (hd | hd) | hd
      · simp at hd; omega
      · cases hd
      · exact k1 d hd
    · rw [Str.length_append, Str.length_append, k2]
      show 1 + 0 + (y :: r).length = _
      simp only [List.length_cons]
      omega
theorem tok_join {ss : List Str} (h : ∀ s ∈ ss, Ch s) (hl : ss.length ≤ 9) : tokB (Txt.join "" ss) = true := by
  rw [join_txt]
  obtain ⟨h1, h2⟩ := join_e h
  exact tok_in.mpr ⟨h1, by omega⟩
theorem ch_len {s : Str} (h : Ch s) : s.length = 1 := by
  obtain ⟨c, rfl, _⟩ := h
  rfl
theorem res_tok : (resW.all fun w => tokB w && (decide (w.length ≤ 8) && (tokB (cutS w (some 1) none) && tokB (cutS w none (some (-1)))))) = true := by decide +kernel
theorem tok_app {w s : Str} (hw : tokB w = true) (hl : w.length ≤ 8) (h : Ch s) : tokB (w ++ s) = true := by
  obtain ⟨c, rfl, h1, h2⟩ := h
  refine tok_in.mpr ⟨fun d hd => ?_, ?_⟩
  · rw [Str.cps_append] at hd
    simp only [Array.toList_append, List.mem_append] at hd
    rcases hd with hd | hd
    · exact (tok_in.mp hw).1 d hd
    · simp at hd; omega
  · rw [Str.length_append]
    show w.length + 1 ≤ 20
    omega

section
open NQ
abbrev w1 : Str := "and answer ask else end event given got handle if live none not off on open or over refuse replace"
abbrev w2 : Str := " request scope sent tell var"
abbrev lett : Str := "abcdefghijklmnopqrstuvwxyz"
abbrev sgns : Str := "!\"#$&'()*+,-./0123456789:;<=>?@ABCDEFGHIJKLMNOPQRSTUVWXYZ[]^_`" ++ lett ++ "{|}~"
theorem ls_len : (sgn lett).length = 26 ∧ (sgn sgns).length = 92 := by decide +kernel
theorem fit_join {ss : List Str} (h : ∀ s ∈ ss, Ch s) (hl : ss.length ≤ 9) : joinT [.str "", .lst (ss.map .str)] = some (.str (Txt.join "" ss)) := by
  have : (ss.map (·.length)).sum ≤ ss.length := by
    clear hl
    induction ss with
    | nil => simp
    | cons x r ih =>
      have e := ch_len (h x (List.mem_cons_self ..))
      have := ih fun s hs => h s (List.mem_cons_of_mem _ hs)
      simp only [List.map_cons, List.sum_cons, List.length_cons, e]
      omega
  rw [o_join, if_pos]
  show _ + _ * 0 ≤ 16777216
  omega
theorem fit_join1 {ss : List Str} (h : ∀ s ∈ ss, Ch s) (hl : ss.length ≤ 9) : (ss.map (·.length)).sum + ss.length * ("" : Str).length ≤ 16777216 := by
  have : (ss.map (·.length)).sum ≤ ss.length := by
    clear hl
    induction ss with
    | nil => simp
    | cons x r ih =>
      have e := ch_len (h x (List.mem_cons_self ..))
      have := ih fun s hs => h s (List.mem_cons_of_mem _ hs)
      simp only [List.map_cons, List.sum_cons, List.length_cons, e]
      omega
  show _ + _ * 0 ≤ 16777216
  omega
theorem w_split : Txt.split (w1 ++ w2) " " = resW := by decide +kernel

theorem LCx {sz : Nat} (el : Dl → Rs) (xs : List Str) (g : NQ.T) (a b c d e f : Option NQ.T) (hg : Bg g) (hxs : ∀ s ∈ xs, NL.Ch s) (h0 : 0 < xs.length) (hl : xs.length ≤ 1000)
      (he : ∀ g k x, ∀ Q E, (∀ g' s, Bg g' → s ∈ xs → Q (.str s) [some g', a, b, c, d, e, f, k, some x, none]) → Bg g → We (el [some g, a, b, c, d, e, f, k, some x, none]) Q E) :
      ∀ k, ∃ (us : List Str) (g' : NQ.T), lcL (gN 8) yesB el [8] ((List.range sz).map fun i => NQ.T.int (i : Nat)) [some g, a, b, c, d, e, f, k, none, none] = some (us.map .str, [some g', a, b, c, d, e, f, k, none, none]) ∧ Bg g' ∧ (∀ s ∈ us, NL.Ch s) ∧ us.length = sz := by
  intro k
  obtain ⟨us, δ', k1, us', g', rfl, k2, k3, k4, k5⟩ := lc_walk (gp := gN 8) (t := yesB) (f := el) (vs := [8]) (ts := (List.range sz).map fun i => NQ.T.int (i : Nat)) (δ := [some g, a, b, c, d, e, f, k, none, none])
    (fun n us δ => ∃ (us' : List Str) (g' : NQ.T), us = us'.map NQ.T.str ∧ δ = [some g', a, b, c, d, e, f, k, none, none] ∧ Bg g' ∧ (∀ s ∈ us', NL.Ch s) ∧ us'.length = n) ⟨[], g, rfl, rfl, hg, fun _ z => absurd z List.not_mem_nil, rfl⟩ (by
      rintro n x us δ hx ⟨us', g', rfl, rfl, p1, p2, p3⟩
      walk_at "ev"
      refine he _ _ _ _ _ (fun g2 s h2 hs => ?_) p1
      walk_at "ev"
      refine ⟨us' ++ [s], g2, by simp, rfl, h2, ?_, by simp [p3]⟩
      intro u hu
      rcases List.mem_append.mp hu with hu | hu
      · exact p2 u hu
      · rw [List.mem_singleton.mp hu]; exact hxs s hs)
  subst k2
  exact ⟨us', g', k1, k3, k4, by simpa using k5⟩
theorem token_ok {g : NQ.T} (h : Bg g) : Wf (f_law_token [g]) (fun u l => ∃ g' t, Bg g' ∧ tokB t = true ∧ u = .tup [.str t, .lst (resW.map .str)] ∧ l = [g']) fun _ _ => False := by
  unfold f_law_token b_law_token
  walk_at "ev"
  rw [w_split]
  obtain ⟨g1, y1, h1, m1, e1⟩ := of_ok h (x := .lst (resW.map .str)) (.inl rfl) (by decide) (by decide)
  obtain ⟨wd, hwd, rfl⟩ := List.mem_map.mp m1
  have hw := List.all_eq_true.mp res_tok wd hwd
  simp only [Bool.and_eq_true, decide_eq_true_eq] at hw
  obtain ⟨hw1, hw2, hw3, hw4⟩ := hw
  have el : wd.length ≤ 16777216 := by omega
  walk_at "ev"
  obtain ⟨g2, y2, h2, m2, e2⟩ := of_ok h1 (x := .lst [.int 1, .int 1, .int 2, .int 3, .int 8, .int 8, .int 9]) (.inl rfl) (by decide) (by decide)
  obtain ⟨sz, rfl, hsz⟩ : ∃ n : Nat, y2 = .int n ∧ n ≤ 9 := by
    simp only [List.mem_cons, List.not_mem_nil, or_false] at m2
    rcases m2 with rfl | rfl | rfl | rfl | rfl | rfl | rfl <;> exact ⟨_, rfl, by decide⟩
  walk_at "ev"
  obtain ⟨g3, y3, h3, m3, e3⟩ := of_ok h2 (x := .lst ((sgn lett).map .str)) (.inl rfl) (by decide +kernel) (by decide +kernel)
  obtain ⟨c3, hc3, rfl⟩ := List.mem_map.mp m3
  have ch3 := sgn_ch (x := lett) (by decide +kernel) c3 hc3
  have hwc : wd.length + c3.length ≤ 16777216 := by rw [ch_len ch3]; omega
  walk_at "ev"
  obtain ⟨us1, g4, l1, h4, u1, v1⟩ := LCx (sz := sz) b_law_token_C1 (sgn lett) g3 (some (.lst (resW.map .str))) (some (.str wd)) (some (.int sz)) (some (.str lett)) (some (.str sgns)) (some (.lst [.str wd, .str wd, .str (wd ++ c3), .str (cutS wd (some 1) none), .str (cutS wd none (some (-1)))])) h3 (sgn_ch (by decide +kernel)) (by decide +kernel) (by decide +kernel) (fun g k x Q E hq hg => by
    unfold b_law_token_C1
    walk_at "ev"
    obtain ⟨g4, y4, h4, m4, e4⟩ := of_ok hg (x := .lst ((sgn lett).map .str)) (.inl rfl) (by decide +kernel) (by decide +kernel)
    obtain ⟨c4, hc4, rfl⟩ := List.mem_map.mp m4
    walk_at "ev"
    exact hq _ _ h4 hc4) none
  have t1 := tok_join u1 (by omega)
  have j1 := fit_join1 u1 (by omega)
  walk_at "ev"
  obtain ⟨us2, g5, l2, h5, u2, v2⟩ := LCx (sz := sz) b_law_token_C2 (sgn lett ++ sgn lett ++ sgn sgns) g4 (some (.lst (resW.map .str))) (some (.str wd)) (some (.int sz)) (some (.str lett)) (some (.str sgns)) (some (.lst [.str wd, .str wd, .str (wd ++ c3), .str (cutS wd (some 1) none), .str (cutS wd none (some (-1)))])) h4 (fun s hs => by
    rcases List.mem_append.mp hs with hs | hs
    · rcases List.mem_append.mp hs with hs | hs
      · exact sgn_ch (by decide +kernel) s hs
      · exact sgn_ch (by decide +kernel) s hs
    · exact sgn_ch (by decide +kernel) s hs) (by decide +kernel) (by decide +kernel) (fun g k x Q E hq hg => by
    unfold b_law_token_C2
    have q1 := ls_len.1
    have q2 := ls_len.2
    walk_at "ev"
    obtain ⟨g4, y4, h4, m4, e4⟩ := of_ok hg (x := .lst ((sgn lett).map .str ++ (sgn lett).map .str ++ (sgn sgns).map .str)) (.inl rfl) (by decide +kernel) (by decide +kernel)
    obtain ⟨c4, hc4, rfl⟩ : ∃ c, c ∈ sgn lett ++ sgn lett ++ sgn sgns ∧ y4 = .str c := by
      rw [← List.map_append, ← List.map_append] at m4
      obtain ⟨c, h1, h2⟩ := List.mem_map.mp m4
      exact ⟨c, h1, h2.symm⟩
    walk_at "ev"
    exact hq _ _ h4 hc4) (some (.lst [.str (Txt.join "" us1), .str (Txt.join "" us1), .str (Txt.join "" us1)]))
  have t2 := tok_join u2 (by omega)
  have j2 := fit_join1 u2 (by omega)
  walk_at "ev"
  simp only [List.cons_append, List.nil_append]
  obtain ⟨g6, y6, h6, m6, e6⟩ := of_ok h5 (x := .lst ([.str wd, .str wd, .str (wd ++ c3), .str (cutS wd (some 1) none), .str (cutS wd none (some (-1))), .str (Txt.join "" us1), .str (Txt.join "" us1), .str (Txt.join "" us1), .str (Txt.join "" us2), .str "", .str "late", .str (Txt.mul "x" 8), .str (Txt.mul "x" 9), .str "a1", .str "\\"])) (.inl rfl) (by simp) (by simp)
  obtain ⟨t, rfl, ht⟩ : ∃ t, y6 = .str t ∧ tokB t = true := by
    simp only [List.mem_cons, List.not_mem_nil, or_false] at m6
    rcases m6 with rfl | rfl | rfl | rfl | rfl | rfl | rfl | rfl | rfl | rfl | rfl | rfl | rfl | rfl | rfl
    · exact ⟨_, rfl, hw1⟩
    · exact ⟨_, rfl, hw1⟩
    · exact ⟨_, rfl, tok_app hw1 hw2 ch3⟩
    · exact ⟨_, rfl, hw3⟩
    · exact ⟨_, rfl, hw4⟩
    · exact ⟨_, rfl, t1⟩
    · exact ⟨_, rfl, t1⟩
    · exact ⟨_, rfl, t1⟩
    · exact ⟨_, rfl, t2⟩
    · exact ⟨_, rfl, by decide +kernel⟩
    · exact ⟨_, rfl, by decide +kernel⟩
    · exact ⟨_, rfl, by decide +kernel⟩
    · exact ⟨_, rfl, by decide +kernel⟩
    · exact ⟨_, rfl, by decide +kernel⟩
    · exact ⟨_, rfl, by decide +kernel⟩
  walk_at "ev"
  exact ⟨g6, t, h6, ht, rfl, rfl⟩
end

theorem n_law_0 : ("var" : Str).length = 3 := by decide +kernel
theorem n_law_1 : ("handle" : Str).length = 6 := by decide +kernel
theorem n_law_2 : ("request" : Str).length = 7 := by decide +kernel
theorem n_law_3 : ("event" : Str).length = 5 := by decide +kernel
theorem n_law_4 : (" 1" : Str).length = 2 := by decide +kernel
theorem n_law_5 : ("" : Str).length = 0 := by decide +kernel
theorem n_law_6 : (" 0 replace" : Str).length = 10 := by decide +kernel
theorem n_law_7 : (" 3" : Str).length = 2 := by decide +kernel
theorem n_law_8 : ("abcdefghijklmnopqrstuvwxyz" : Str).length = 26 := by decide +kernel
theorem n_law_9 : (" " : Str).length = 1 := by decide +kernel
noncomputable section
open NQ
abbrev cf_law : Cf := cfOf [.fz] [.fz, (.all .fz), .fz, .fz, .fz, .fz, .fz, .fz, .fz, .fz] .fz
def b_law_C1 : Dl → Rs := (qE (eV 6))
def b_law_C1t : Dl → Rb := (qB (asB (opq ninA [(eV 6), (eC (.str "abcdefghijklmnopqrstuvwxyz"))])))
def b_law_L2 : Sf := (sSeq (sSet 10 (fCall [.fz, .fz] f_law_told [.val (qE (opq addR [(opq addR [(opq addR [(eV 9), (eC (.str " "))]), (eV 3)]), (opq ixA [(eV 8), (eV 9)])])), .val (qE (eV 9))]))
  (sIf (qB (orQ (asB (opq neT [(eV 10), (ifQ (asTru (eV 7)) (opq lstT [(eV 3)]) (eC (.int (0))))])) (asTru (opq isiT [(eV 10), (eC (.ty "bool"))])))) (sRet (qE (eC (.bl false)))) sNext))
def b_law_L1 : Sf := (sSeq (sSetN 2 (fCall [.fz, .fz] f_law_seed [.val (qE (eV 0)), .val (qE (eV 1))]))
  (sSeq (sAsg (fCall [(.all .fz)] f_law_token [.var 2]) (gT (gCs (gN 3) (gCs (gN 4) gNl))))
  (sSeq (sSet 5 (lcE (itE (qE (eV 3))) (gN 6) b_law_C1t b_law_C1 [6]))
  (sSeq (sSet 7 (qE (andV (opq eqT [(eV 5), (opq lstT [])]) (andV (chQ leT leT (eC (.int (1))) (opq lenT [(eV 3)]) (eC (.int (8)))) (opq ninA [(eV 3), (eV 4)])))))
  (sSeq (sSet 8 (fDisp [.inr "var", .inr "handle", .inr "request", .inr "event"] [.val (qE (eC (.str " 1"))), .val (qE (eC (.str ""))), .val (qE (eC (.str " 0 replace"))), .val (qE (eC (.str " 3")))]))
  (sFor (itE (qE (opq lstT [(eC (.str "var")), (eC (.str "handle")), (eC (.str "request")), (eC (.str "event"))]))) (gN 9) b_law_L2))))))
def b_law : Sf := (sSeq (sFor (itR1 (qE (opq maxT [(eC (.int (1))), (opq minT [(eC (.int (8))), (opq lenT [(eV 0)])])]))) (gN 1) b_law_L1)
  (sRet (qE (eC (.bl true)))))
def f_law : List NQ.T → Fo := fnT [.fz] 10 .fz b_law
end

def sp_law (K : PySem.W.Frag) : Sp := NQ.FS K [.fz] .fz f_law
section
open NQ
def oddS (t : Str) : List Str := (sgn t).filter fun s => decide (∀ c ∈ s.cps.toList, c ∉ lett.cps.toList)
theorem odd_one {c : Nat} : decide (∀ d ∈ (⟨#[c]⟩ : Str).cps.toList, d ∉ lett.cps.toList) = decide (c ∉ lett.cps.toList) := by
  by_cases h : c ∉ lett.cps.toList
  · rw [decide_eq_true h]
    exact decide_eq_true fun d hd => by
      have : d = c := List.mem_singleton.mp hd
      rw [this]; exact h
  · rw [decide_eq_false h]
    exact decide_eq_false fun z => h (z c (List.mem_singleton.mpr rfl))
theorem odd_ok {t : Str} {a0 a1 a2 a3 a4 a5 a7 a8 a9 a10 : Option NQ.T} : ∃ δ', lcL (gN 6) b_law_C1t b_law_C1 [6] ((sgn t).map .str) [a0, a1, a2, a3, a4, a5, none, a7, a8, a9, a10] = some ((oddS t).map .str, δ') ∧ δ' = [a0, a1, a2, a3, a4, a5, none, a7, a8, a9, a10] := by
  obtain ⟨us, δ', e, rfl, rfl⟩ := lc_walk (gp := gN 6) (t := b_law_C1t) (f := b_law_C1) (vs := [6]) (ts := (sgn t).map .str) (δ := [a0, a1, a2, a3, a4, a5, none, a7, a8, a9, a10])
    (fun n us δ => us = (((sgn t).take n).filter fun s => decide (∀ c ∈ s.cps.toList, c ∉ lett.cps.toList)).map .str ∧ δ = [a0, a1, a2, a3, a4, a5, none, a7, a8, a9, a10]) ⟨rfl, rfl⟩ (by
      rintro n x us δ hx ⟨rfl, rfl⟩
      rw [List.getElem?_map] at hx
      cases hs : (sgn t)[n]? with
      | none => rw [hs] at hx; cases hx
      | some s =>
        rw [hs] at hx
        cases hx
        obtain ⟨c, _, rfl⟩ := List.mem_map.mp (List.mem_of_getElem? hs)
        unfold b_law_C1t b_law_C1
        have hm := memB_ch (s := (⟨#[c]⟩ : Str)) (z := lett) (c := c) rfl
        have e1 : (sgn t)[n]?.toList = [⟨#[c]⟩] := by rw [hs]; rfl
        walk_at "ev"
        refine g_iteN (fun h => ?_) (fun h => ?_)
        · walk_at "ev"
          refine ⟨?_, rfl⟩
          rw [List.take_succ, e1, List.filter_append, List.map_append, List.filter_cons, odd_one, decide_eq_true h]
          rfl
        · walk_at "ev"
          refine ⟨?_, rfl⟩
          rw [List.take_succ, e1, List.filter_append, List.map_append, List.filter_cons, odd_one, decide_eq_false (fun z => z h)]
          exact (List.append_nil _).symm)
  refine ⟨_, by rw [e, List.length_map, List.take_of_length_le (Nat.le_refl _)]; rfl, rfl⟩
theorem odd_nil {t : Str} : oddS t = [] ↔ (t.cps.toList.all fun c => decide (c ∈ lets.cps.toList)) = true := by
  unfold oddS sgn
  rw [List.filter_eq_nil_iff, List.all_eq_true]
  constructor
  · intro h c hc
    have := h ⟨#[c]⟩ (List.mem_map.mpr ⟨c, hc, rfl⟩)
    rw [odd_one, decide_eq_true_eq] at this
    exact decide_eq_true (Classical.not_not.mp this)
  · intro h s hs
    obtain ⟨c, hc, rfl⟩ := List.mem_map.mp hs
    rw [odd_one, decide_eq_true_eq]
    exact fun z => z (of_decide_eq_true (h c hc))
def tailS : Kd → Str
  | .var => " 1" | .hnd => "" | .req => " 0 replace" | .evt => " 3"
theorem tail_look (k : Kd) : lookT (κ := Key) [.inr "var", .inr "handle", .inr "request", .inr "event"] [NQ.T.str " 1", .str "", .str " 0 replace", .str " 3"] (.inr k.s) = some (.str (tailS k)) := by
  obtain ⟨a1, a2, a3⟩ := kd_ne
  have b1 : ¬ (Sum.inr ("handle" : Str) : Key) = Sum.inr ("request" : Str) := inr_ne (a := "handle") (b := "request") (by decide +kernel)
  have b2 : ¬ (Sum.inr ("handle" : Str) : Key) = Sum.inr ("event" : Str) := inr_ne (a := "handle") (b := "event") (by decide +kernel)
  have b3 : ¬ (Sum.inr ("var" : Str) : Key) = Sum.inr ("handle" : Str) := inr_ne (a := "var") (b := "handle") (by decide +kernel)
  cases k
  · exact if_pos rfl
  · exact (if_neg b3).trans (if_pos rfl)
  · exact (if_neg (inr_ne a1)).trans ((if_neg b1).trans (if_pos rfl))
  · exact (if_neg (inr_ne a2)).trans ((if_neg b2).trans ((if_neg (inr_ne a3)).trans (if_pos rfl)))
theorem kd_lens (k : Kd) : k.s.length ≤ 7 ∧ (tailS k).length ≤ 10 := by cases k <;> decide +kernel
theorem line_eq (k : Kd) (t : Str) : k.s ++ " " ++ t ++ tailS k = Str.join " " (k.s :: t :: k.tail) := by
  cases k
  · show _ = ("var" : Str) ++ " " ++ (t ++ " " ++ "1")
    refine str_eq ?_
    simp only [Str.cps_append, Array.toList_append, List.append_assoc]
    congr 3
  · show _ = ("handle" : Str) ++ " " ++ t
    refine str_eq ?_
    simp only [Str.cps_append, Array.toList_append, List.append_assoc]
    congr 2
    exact List.append_nil _
  · show _ = ("request" : Str) ++ " " ++ (t ++ " " ++ ("0" ++ " " ++ "replace"))
    refine str_eq ?_
    simp only [Str.cps_append, Array.toList_append, List.append_assoc]
    congr 3
  · show _ = ("event" : Str) ++ " " ++ (t ++ " " ++ "3")
    refine str_eq ?_
    simp only [Str.cps_append, Array.toList_append, List.append_assoc]
    congr 3
end

section
open NQ
theorem due_ok {t : Str} {a0 a1 a2 a6 a7 a8 a9 a10 : Option NQ.T} (ht : tokB t = true) : andV (opq eqT [eV 5, opq lstT []]) (andV (chQ leT leT (eC (.int (1))) (opq lenT [(eV 3)]) (eC (.int (8)))) (opq ninA [(eV 3), (eV 4)])) [a0, a1, a2, some (.str t), some (.lst (resW.map .str)), some (.lst ((oddS t).map .str)), a6, a7, a8, a9, a10] = some (.bl (isNm t)) := by
  have key : Wq (andV (opq eqT [eV 5, opq lstT []]) (andV (chQ leT leT (eC (.int (1))) (opq lenT [(eV 3)]) (eC (.int (8)))) (opq ninA [(eV 3), (eV 4)])) [a0, a1, a2, some (.str t), some (.lst (resW.map .str)), some (.lst ((oddS t).map .str)), a6, a7, a8, a9, a10]) fun u => u = .bl (isNm t) := by
    have p1 : T.pl 9 (.lst ((oddS t).map .str)) = true := strs_pl _
    have hl := (tok_in.mp ht).2
    have sk : PyData.strOk t = true := sok_asc fun c hc => by have := (tok_in.mp ht).1 c hc; omega
    have m1 : memB (.str t) (.lst (resW.map .str)) = some (decide (t ∈ resW)) := by
      rw [memB_l (x := .str t) sk (strs_isS (l := resW) (by decide +kernel)), inS_strs]
    have hl2 : t.length ≤ 16777216 := by omega
    walk_at "ev"
    refine ite_c (fun ho => ?_) (fun ho => ?_)
    · have ha := odd_nil.mp (strs_inj.mp (NQ.T.lst.inj ho))
      walk_at "ev"
      refine g_iteD (fun h1 => ?_) (fun h1 => ?_)
      · have hz : ¬ t = "" := fun z => by rw [z] at h1; revert h1; decide +kernel
        walk_at "ev"
        refine g_iteD (fun h2 => ?_) (fun h2 => ?_)
        · walk_at "ev"
          unfold isNm isWd
          rw [ha, decide_eq_false hz, decide_eq_false (by omega : ¬ 8 < (t.length : Int))]
          rfl
        · walk_at "ev"
          unfold isNm isWd
          rw [decide_eq_false h2, decide_eq_true (by omega : 8 < (t.length : Int)), Bool.or_true]
          rfl
      · walk_at "ev"
        have hz : t = "" := str_eq (by
          have : t.cps.toList.length = 0 := by rw [Array.length_toList]; show t.length = 0; omega
          rw [List.length_eq_zero_iff.mp this]; rfl)
        unfold isNm isWd
        rw [decide_eq_true hz]
        rfl
    · have hb : (t.cps.toList.all fun c => decide (c ∈ lets.cps.toList)) = false := by
        cases h : (t.cps.toList.all fun c => decide (c ∈ lets.cps.toList)) with
        | false => rfl
        | true => exact absurd (by rw [odd_nil.mpr h]; rfl) ho
      rw [dec_f ho]
      walk_at "ev"
      unfold isNm isWd
      rw [hb, Bool.and_false]
      rfl
  obtain ⟨u, e, rfl⟩ := wq_ex key
  exact e
theorem app_nil (a : Str) : a ++ ("" : Str) = a := str_eq (by rw [Str.cps_append, Array.toList_append]; exact List.append_nil _)
theorem kd_tk (k : Kd) : ∀ x ∈ k.s :: k.tail, Tk x := by
  have key : ((k.s :: k.tail).all fun x => !x.cps.toList.isEmpty && x.cps.toList.all fun c => decide (33 ≤ c) && decide (c ≤ 126)) = true := by cases k <;> decide +kernel
  intro x hx
  have := List.all_eq_true.mp key x hx
  rw [Bool.and_eq_true, List.all_eq_true] at this
  refine ⟨fun z => ?_, fun c hc => by simpa using this.2 c hc⟩
  rw [z] at this
  exact absurd this.1 Bool.false_ne_true
theorem kd_good (k : Kd) : k.tail.length ≤ 3 ∧ (∀ t ∈ k.tail, t.length ≤ 100) ∧ (∀ t r, k.tail = t :: r → isNm t = true → r = k.tail) ∧ nmOf k.tail = false := by
  cases k
  · exact ⟨by decide, by decide +kernel, fun t r e h => by cases e; revert h; decide +kernel, by decide +kernel⟩
  · exact ⟨by decide, by decide +kernel, fun t r e h => by (cases e), rfl⟩
  · exact ⟨by decide, by decide +kernel, fun t r e h => by cases e; revert h; decide +kernel, by decide +kernel⟩
  · exact ⟨by decide, by decide +kernel, fun t r e h => by cases e; revert h; decide +kernel, by decide +kernel⟩
theorem words_gap (k : Kd) : Txt.words (k.s ++ " " ++ "" ++ tailS k) = k.s :: k.tail := by cases k <;> decide +kernel
theorem told_due {t : Str} (k : Kd) (ht : tokB t = true) : ToldOk (k.s ++ " " ++ t ++ tailS k) k.s ∧ toldT (k.s ++ " " ++ t ++ tailS k) = if isNm t = true then .lst [.str t] else .int 0 := by
  obtain ⟨hc, hl⟩ := tok_in.mp ht
  obtain ⟨l1, l2⟩ := kd_lens k
  have l3 : (" " : Str).length = 1 := by decide +kernel
  have hln : (k.s ++ " " ++ t ++ tailS k).length ≤ 1000 := by simp only [Str.length_append]; omega
  have h10 : ∀ c ∈ (k.s ++ " " ++ t ++ tailS k).cps.toList, c ≠ 10 := by
    intro c h
    simp only [Str.cps_append, Array.toList_append, List.mem_append] at h
    rcases h with ((h | h) | h) | h
    · intro z; subst z; revert h; cases k <;> decide +kernel
    · intro z; subst z; revert h; decide +kernel
    · have := hc c h; omega
    · intro z; subst z; revert h; cases k <;> decide +kernel
  obtain ⟨g1, g2, g3, g4⟩ := kd_good k
  by_cases hz : t = ""
  · subst hz
    have hw := words_gap k
    refine ⟨⟨k, k.tail, rfl, hln, h10, hw, by omega, g2, g3⟩, ?_⟩
    have hn : isNm "" = false := by decide +kernel
    rw [hn]
    unfold toldT
    rw [hw]
    cases hk : k.tail with
    | nil => rfl
    | cons a r =>
      rw [hk] at g4
      have : isNm a = false := g4
      simp only [this, Bool.false_eq_true, if_false]
  · have hw : Txt.words (k.s ++ " " ++ t ++ tailS k) = k.s :: t :: k.tail := by
      rw [line_eq, ← app_nil (Str.join _ _)]
      refine words_join0 (sep := " ") (tail := "") (fun c hc => ?_) (by decide +kernel) (fun c hc => ?_) fun x hx => ?_
      · have : (" " : Str).cps.toList = [32] := by decide +kernel
        rw [this] at hc
        exact List.mem_singleton.mp hc
      · have : ("" : Str).cps.toList = [] := by decide +kernel
        rw [this] at hc
        exact absurd hc List.not_mem_nil
      · rcases List.mem_cons.mp hx with rfl | hx
        · exact kd_tk k _ (List.mem_cons_self ..)
        · rcases List.mem_cons.mp hx with rfl | hx
          · exact ⟨fun z => hz (str_eq (by rw [z]; rfl)), hc⟩
          · exact kd_tk k _ (List.mem_cons_of_mem _ hx)
    refine ⟨⟨k, t :: k.tail, rfl, hln, h10, hw, by simp only [List.length_cons]; omega, fun x hx => ?_, fun x r e _ => by cases e; rfl⟩, ?_⟩
    · rcases List.mem_cons.mp hx with rfl | hx
      · omega
      · exact g2 x hx
    · unfold toldT
      rw [hw]
end

section
open NQ
theorem law_true {ns : List Int} {s : NQ.T} (hS : Scr ns s) (hn : ns.length ≤ 63) : f_law [s] = some (.ret (.bl true), [s]) := by
  refine of_wf ?_
  unfold f_law b_law
  have e0 := scr_len hS
  walk_at "ev"
  obtain ⟨N, eN, hN⟩ : ∃ N : Nat, (if (if (ns.length : Int) < 8 then (ns.length : Int) else 8) > 1 then (if (ns.length : Int) < 8 then (ns.length : Int) else 8) else 1) = (N : Int) ∧ N ≤ 8 := by
    by_cases h : (ns.length : Int) < 8
    · simp only [h, if_true]
      by_cases h2 : (ns.length : Int) > 1
      · simp only [h2, if_true]; exact ⟨_, rfl, by omega⟩
      · simp only [h2, if_false]; exact ⟨1, rfl, by omega⟩
    · simp only [h, if_false]; exact ⟨8, rfl, by omega⟩
  rw [eN]
  walk_at "ev"
  rw [Int.toNat_natCast]
  refine ws_forI (fun _ δ => ∃ a1 a2 a3 a4 a5 a6 a7 a8 a9 a10 : Option NQ.T, δ = [some s, a1, a2, a3, a4, a5, a6, a7, a8, a9, a10]) ⟨_, _, _, _, _, _, _, _, _, _, rfl⟩ ?_ ?_
  · rintro n x δ hx ⟨a1, a2, a3, a4, a5, a6, a7, a8, a9, a10, rfl⟩
    obtain ⟨i, rfl⟩ : ∃ i : Nat, x = .int i := by
      obtain ⟨i, _, rfl⟩ := List.mem_map.mp (List.mem_of_getElem? hx)
      exact ⟨i, rfl⟩
    unfold b_law_L1
    obtain ⟨g, hg, e1⟩ := seed_ok (i := i) hS
    walk_at "ev"
    obtain ⟨u, l, e2, g', t, hg', ht, rfl, rfl⟩ := wf_ex (token_ok hg)
    have hl := (tok_in.mp ht).2
    have hsl : (sgn t).length ≤ 20 := by unfold sgn; rw [List.length_map, Array.length_toList]; exact hl
    walk_at "ev"
    obtain ⟨_, e3, rfl⟩ := @odd_ok t (some s) (some (.int i)) (some g') (some (.str t)) (some (.lst (resW.map .str))) a5 a7 a8 a9 a10
    have e4 := @due_ok t (some s) (some (.int i)) (some g') none a7 a8 a9 a10 ht
    walk_at "ev"
    refine ws_forI (fun _ δ => ∃ a9 a10 : Option NQ.T, δ = [some s, some (.int i), some g', some (.str t), some (.lst (resW.map .str)), some (.lst ((oddS t).map .str)), none, some (.bl (isNm t)), some (.dic [.inr "var", .inr "handle", .inr "request", .inr "event"] [.str " 1", .str "", .str " 0 replace", .str " 3"]), a9, a10]) ⟨_, _, rfl⟩ ?_ ?_
    · rintro m y δ hy ⟨b9, b10, rfl⟩
      obtain ⟨k, rfl⟩ : ∃ k : Kd, y = .str k.s := by
        have := List.mem_of_getElem? hy
        simp only [List.mem_cons, List.not_mem_nil, or_false] at this
        rcases this with rfl | rfl | rfl | rfl
        · exact ⟨.var, rfl⟩
        · exact ⟨.hnd, rfl⟩
        · exact ⟨.req, rfl⟩
        · exact ⟨.evt, rfl⟩
      unfold b_law_L2
      obtain ⟨l1, l2⟩ := kd_lens k
      have l3 : (" " : Str).length = 1 := by decide +kernel
      have tl := tail_look k
      obtain ⟨q1, q2⟩ := told_due k ht
      have e5 := told_eq q1
      have i1 : subB "list" "bool" = some false := by decide
      have i2 : subB "int" "bool" = some false := by decide
      cases hd : isNm t with
      | true =>
        simp only [hd, if_true] at q2
        rw [q2] at e5
        walk_at "ev"
        refine ite_cn (fun h => absurd rfl h) fun _ => ?_
        walk_at "ev"
        exact ⟨_, _, rfl⟩
      | false =>
        simp only [hd, Bool.false_eq_true, if_false] at q2
        rw [q2] at e5
        walk_at "ev"
        exact ⟨_, _, rfl⟩
    · rintro δ ⟨b9, b10, rfl⟩
      exact ⟨_, _, _, _, _, _, _, _, _, _, rfl⟩
  · rintro δ ⟨a1, a2, a3, a4, a5, a6, a7, a8, a9, a10, rfl⟩
    walk_at "ev"
    exact ⟨rfl, rfl⟩
end

section
variable {P : Program} {w : World} {K : PySem.W.Frag} {mg : Str → Option Value} {base : Heap}
theorem ok_BadProgram___init__ {f : Addr} {fd : FuncData} (F : FnP K "__init__" "BadProgram.__init__" s_BadProgram___init__ f fd) (o : OexC K (He.ga K "BadProgram")) (no : PySem.W.findIn K (.ref (He.ga K "BadProgram")) "at" = some none) : FnOk P w K mg base (L2.CX P w) 1 f fd ["self", "at"] (sp_xi (He.ga K "BadProgram") "at") := by
  refine F.ok sc_BadProgram___init__ (fun vs H Q E h => ?_) (fun cdv A outer s H vs Q E hr h => ?_)
  · obtain ⟨a, v, rfl, _⟩ := h
    rfl
  · obtain ⟨a, v, rfl, ha, k⟩ := h
    exact ⟨_, pss_one (ps_ost (pv 0) (pv 1)), _, rfl, _, rfl, a, _, rfl, o, no, .inl ⟨ha, fun dx h1 h2 => k dx h1 h2⟩⟩
end
section
open NQ
variable {P : Program} {w : World} {K : PySem.W.Frag} {mg : Str → Option Value} {base : Heap}
theorem ok_law_seed {f : Addr} {fd : FuncData} (F : FnP K "_law_seed" "_law_seed" s_law_seed f fd) (T : Txt K mg)  : FnOk P w K mg base (L2.CX P w) 1 f fd ["_law_script", "_law_at"] (sp_law_seed K) := by
  refine F.ok sc_law_seed (fun vs H Q E h => h.1) (fun cdv A outer s H vs Q E hr h => ?_)
  have nd := sc_law_seed.nd
  have tk := takes_of (E := E) (X := (cxOf (L2.CX P w) P w K mg base ["_law_script", "_law_at", "_law_cell", "_law_mixed", "_law_k", "_law_each"] "_law_seed" (defScope s_law_seed) f cdv A outer s H E)) rfl rfl rfl rfl
  have po : PassesOwn (model P w) (cxOf (L2.CX P w) P w K mg base ["_law_script", "_law_at", "_law_cell", "_law_mixed", "_law_k", "_law_each"] "_law_seed" (defScope s_law_seed) f cdv A outer s H E).A (cxOf (L2.CX P w) P w K mg base ["_law_script", "_law_at", "_law_cell", "_law_mixed", "_law_k", "_law_each"] "_law_seed" (defScope s_law_seed) f cdv A outer s H E).env (cxOf (L2.CX P w) P w K mg base ["_law_script", "_law_at", "_law_cell", "_law_mixed", "_law_k", "_law_each"] "_law_seed" (defScope s_law_seed) f cdv A outer s H E).xe := passes_of (X := (cxOf (L2.CX P w) P w K mg base ["_law_script", "_law_at", "_law_cell", "_law_mixed", "_law_k", "_law_each"] "_law_seed" (defScope s_law_seed) f cdv A outer s H E)) rfl
  have rule : PSs (cxOf (L2.CX P w) P w K mg base ["_law_script", "_law_at", "_law_cell", "_law_mixed", "_law_k", "_law_each"] "_law_seed" (defScope s_law_seed) f cdv A outer s H E) (defBody s_law_seed) (SF K cf_law_seed (fun cls d _ H => E cls d H) b_law_seed) := (ms_cons (ms_set 2 nd (m_tf (m_ifQ (mt_q (l := [(.fz, (eV 1)), (.fz, (opq lenT [(eV 0)]))]) ct_lt (PEs.c (m_v 1 (pv 1)) (PEs.c (m_qr (l := [(.fz, (eV 0))]) (co_len T.n_len) (PEs.c (m_v 0 (pv 0)) PEs.nil)) PEs.nil))) (m_q (l := [(.fz, (eV 0)), (.fz, (eV 1))]) (co_ix hr.units) (PEs.c (m_v 0 (pv 0)) (PEs.c (m_v 1 (pv 1)) PEs.nil))) (m_c (.int (0)) pe_int rfl))))
  (ms_cons (ms_set 3 nd (m_tf (m_qr (l := [(.fz, (eC (.int (90481)))), (.fz, (opq mulR [(eC (.int (613))), (eV 1)]))]) co_addR (PEs.c (m_c (.int (90481)) pe_int rfl) (PEs.c (m_qr (l := [(.fz, (eC (.int (613)))), (.fz, (eV 1))]) co_mulR (PEs.c (m_c (.int (613)) pe_int rfl) (PEs.c (m_v 1 (pv 1)) PEs.nil))) PEs.nil)))))
  (ms_cons (ms_for po (mi_enum (m_tf (m_qc (l := [(.fz, (eV 0)), (.fz, (eC (.int (63))))]) (CoC.one (con_sl2 (NL.sl_dyn K)) (DNew.op nw_slL) (slL_chk.2 (by decide))) (PEs.c (m_v 0 (pv 0)) (PEs.c (m_c (.int (63)) pe_int rfl) PEs.nil)))) T.n_enumerate) (mg_tup 2 (mgs_cons (mg_name 4 nd) (mgs_cons (mg_name 5 nd) mgs_nil)) (gl_cons (gl_cons gl_nil))) (ms_one (ms_set 3 nd (m_tf (m_qr (l := [(.fz, (opq intT [(opq addR [(opq addR [(opq mulR [(eV 3), (eC (.int (30871)))]), (opq modT [(opq intT [(eV 5)]), (eC (.int (2147483423)))])]), (opq mulR [(eC (.int (211))), (eV 4)])])])), (.fz, (eC (.int (2147483477))))]) co_mod (PEs.c (m_qr (l := [(.fz, (opq addR [(opq addR [(opq mulR [(eV 3), (eC (.int (30871)))]), (opq modT [(opq intT [(eV 5)]), (eC (.int (2147483423)))])]), (opq mulR [(eC (.int (211))), (eV 4)])]))]) (co_int T.n_int) (PEs.c (m_qr (l := [(.fz, (opq addR [(opq mulR [(eV 3), (eC (.int (30871)))]), (opq modT [(opq intT [(eV 5)]), (eC (.int (2147483423)))])])), (.fz, (opq mulR [(eC (.int (211))), (eV 4)]))]) co_addR (PEs.c (m_qr (l := [(.fz, (opq mulR [(eV 3), (eC (.int (30871)))])), (.fz, (opq modT [(opq intT [(eV 5)]), (eC (.int (2147483423)))]))]) co_addR (PEs.c (m_qr (l := [(.fz, (eV 3)), (.fz, (eC (.int (30871))))]) co_mulR (PEs.c (m_v 3 (pv 3)) (PEs.c (m_c (.int (30871)) pe_int rfl) PEs.nil))) (PEs.c (m_qr (l := [(.fz, (opq intT [(eV 5)])), (.fz, (eC (.int (2147483423))))]) co_mod (PEs.c (m_qr (l := [(.fz, (eV 5))]) (co_int T.n_int) (PEs.c (m_v 5 (pv 5)) PEs.nil)) (PEs.c (m_c (.int (2147483423)) pe_int rfl) PEs.nil))) PEs.nil))) (PEs.c (m_qr (l := [(.fz, (eC (.int (211)))), (.fz, (eV 4))]) co_mulR (PEs.c (m_c (.int (211)) pe_int rfl) (PEs.c (m_v 4 (pv 4)) PEs.nil))) PEs.nil))) PEs.nil)) (PEs.c (m_c (.int (2147483477)) pe_int rfl) PEs.nil)))))))
  (ms_one (ms_retO (m_ns (os := [.val (qE (ifQ (asB (opq geT [(opq absT [(eV 2)]), (opq powT [(eC (.int (10))), (eC (.int (18)))])])) (opq absT [(eV 2)]) (eC (.int (0))))), .val (qE (eV 3))]) con_lst st_lst lst_kids (PEs.c (m_tf (m_ifQ (mt_q (l := [(.fz, (opq absT [(eV 2)])), (.fz, (opq powT [(eC (.int (10))), (eC (.int (18)))]))]) ct_ge (PEs.c (m_qr (l := [(.fz, (eV 2))]) (co_abs T.n_abs) (PEs.c (m_v 2 (pv 2)) PEs.nil)) (PEs.c (m_qr (l := [(.fz, (eC (.int (10)))), (.fz, (eC (.int (18))))]) co_pow (PEs.c (m_c (.int (10)) pe_int rfl) (PEs.c (m_c (.int (18)) pe_int rfl) PEs.nil))) PEs.nil))) (m_qr (l := [(.fz, (eV 2))]) (co_abs T.n_abs) (PEs.c (m_v 2 (pv 2)) PEs.nil)) (m_c (.int (0)) pe_int rfl))) (PEs.c (m_tf (m_v 3 (pv 3))) PEs.nil))))))))
  have h1 : vs.length = 2 := h.1
  exact ⟨_, rule, by
    have h2 := fn_in (ls := [.fz, .fz, .fz, .fz]) h
    match vs, h1 with
    | [_, _], _ => exact h2⟩
end
section
open NQ
variable {P : Program} {w : World} {K : PySem.W.Frag} {mg : Str → Option Value} {base : Heap}
theorem ok_law_take {f : Addr} {fd : FuncData} (F : FnP K "_law_take" "_law_take" s_law_take f fd) (T : Txt K mg)  : FnOk P w K mg base (L2.CX P w) 1 f fd ["_law_bag", "_law_many"] (sp_law_take K) := by
  refine F.ok sc_law_take (fun vs H Q E h => h.1) (fun cdv A outer s H vs Q E hr h => ?_)
  have nd := sc_law_take.nd
  have tk := takes_of (E := E) (X := (cxOf (L2.CX P w) P w K mg base ["_law_bag", "_law_many", "_law_digit"] "_law_take" (defScope s_law_take) f cdv A outer s H E)) rfl rfl rfl rfl
  have po : PassesOwn (model P w) (cxOf (L2.CX P w) P w K mg base ["_law_bag", "_law_many", "_law_digit"] "_law_take" (defScope s_law_take) f cdv A outer s H E).A (cxOf (L2.CX P w) P w K mg base ["_law_bag", "_law_many", "_law_digit"] "_law_take" (defScope s_law_take) f cdv A outer s H E).env (cxOf (L2.CX P w) P w K mg base ["_law_bag", "_law_many", "_law_digit"] "_law_take" (defScope s_law_take) f cdv A outer s H E).xe := passes_of (X := (cxOf (L2.CX P w) P w K mg base ["_law_bag", "_law_many", "_law_digit"] "_law_take" (defScope s_law_take) f cdv A outer s H E)) rfl
  have rule : PSs (cxOf (L2.CX P w) P w K mg base ["_law_bag", "_law_many", "_law_digit"] "_law_take" (defScope s_law_take) f cdv A outer s H E) (defBody s_law_take) (SF K cf_law_take (fun cls d _ H => E cls d H) b_law_take) := (ms_cons (ms_if (mt_qb (mt_q (l := [(.fz, (opq ixA [(eV 0), (eC (.int (0)))])), (.fz, (eC (.int (0))))]) ct_gt (PEs.c (m_q (l := [(.ch, (eV 0)), (.fz, (eC (.int (0))))]) (co_ix hr.units) (PEs.c (m_vc 0 (pv 0)) (PEs.c (m_c (.int (0)) pe_int rfl) PEs.nil))) (PEs.c (m_c (.int (0)) pe_int rfl) PEs.nil)))) (ms_cons (ms_set 2 nd (m_tf (m_qr (l := [(.fz, (opq intT [(opq ixA [(eV 0), (eC (.int (0)))])])), (.fz, (eV 1))]) co_mod (PEs.c (m_qr (l := [(.fz, (opq ixA [(eV 0), (eC (.int (0)))]))]) (co_int T.n_int) (PEs.c (m_q (l := [(.ch, (eV 0)), (.fz, (eC (.int (0))))]) (co_ix hr.units) (PEs.c (m_vc 0 (pv 0)) (PEs.c (m_c (.int (0)) pe_int rfl) PEs.nil))) PEs.nil)) (PEs.c (m_v 1 (pv 1)) PEs.nil)))))
  (ms_cons (ms_setIx (i := 0) (pv 0) (m_c (.int (0)) pe_int rfl) (m_tf (m_qr (l := [(.fz, (opq ixA [(eV 0), (eC (.int (0)))])), (.fz, (eV 1))]) co_div (PEs.c (m_q (l := [(.ch, (eV 0)), (.fz, (eC (.int (0))))]) (co_ix hr.units) (PEs.c (m_vc 0 (pv 0)) (PEs.c (m_c (.int (0)) pe_int rfl) PEs.nil))) (PEs.c (m_v 1 (pv 1)) PEs.nil)))) (hg := pg_sub (pv 0) (m_c (.int (0)) pe_int rfl) set_list))
  (ms_one (ms_ret (m_tf (m_v 2 (pv 2))))))) ms_nil)
  (ms_cons (ms_setIx (i := 0) (pv 0) (m_c (.int (1)) pe_int rfl) (m_tf (m_qr (l := [(.fz, (opq intT [(opq addR [(opq mulA [(opq ixA [(eV 0), (eC (.int (1)))]), (eC (.int (41358)))]), (eC (.int (7717)))])])), (.fz, (eC (.int (2147483497))))]) co_mod (PEs.c (m_qr (l := [(.fz, (opq addR [(opq mulA [(opq ixA [(eV 0), (eC (.int (1)))]), (eC (.int (41358)))]), (eC (.int (7717)))]))]) (co_int T.n_int) (PEs.c (m_qr (l := [(.fz, (opq mulA [(opq ixA [(eV 0), (eC (.int (1)))]), (eC (.int (41358)))])), (.fz, (eC (.int (7717))))]) co_addR (PEs.c (m_q (l := [(.fz, (opq ixA [(eV 0), (eC (.int (1)))])), (.fz, (eC (.int (41358))))]) co_mul (PEs.c (m_q (l := [(.ch, (eV 0)), (.fz, (eC (.int (1))))]) (co_ix hr.units) (PEs.c (m_vc 0 (pv 0)) (PEs.c (m_c (.int (1)) pe_int rfl) PEs.nil))) (PEs.c (m_c (.int (41358)) pe_int rfl) PEs.nil))) (PEs.c (m_c (.int (7717)) pe_int rfl) PEs.nil))) PEs.nil)) (PEs.c (m_c (.int (2147483497)) pe_int rfl) PEs.nil)))) (hg := pg_sub (pv 0) (m_c (.int (1)) pe_int rfl) set_list))
  (ms_one (ms_ret (m_tf (m_qr (l := [(.fz, (opq divT [(opq modT [(opq intT [(opq mulR [(opq divT [(opq ixA [(eV 0), (eC (.int (1)))]), (eC (.int (5)))]), (eC (.int (39373)))])]), (eC (.int (2147483543)))]), (eC (.int (16)))])), (.fz, (eV 1))]) co_mod (PEs.c (m_qr (l := [(.fz, (opq modT [(opq intT [(opq mulR [(opq divT [(opq ixA [(eV 0), (eC (.int (1)))]), (eC (.int (5)))]), (eC (.int (39373)))])]), (eC (.int (2147483543)))])), (.fz, (eC (.int (16))))]) co_div (PEs.c (m_qr (l := [(.fz, (opq intT [(opq mulR [(opq divT [(opq ixA [(eV 0), (eC (.int (1)))]), (eC (.int (5)))]), (eC (.int (39373)))])])), (.fz, (eC (.int (2147483543))))]) co_mod (PEs.c (m_qr (l := [(.fz, (opq mulR [(opq divT [(opq ixA [(eV 0), (eC (.int (1)))]), (eC (.int (5)))]), (eC (.int (39373)))]))]) (co_int T.n_int) (PEs.c (m_qr (l := [(.fz, (opq divT [(opq ixA [(eV 0), (eC (.int (1)))]), (eC (.int (5)))])), (.fz, (eC (.int (39373))))]) co_mulR (PEs.c (m_qr (l := [(.fz, (opq ixA [(eV 0), (eC (.int (1)))])), (.fz, (eC (.int (5))))]) co_div (PEs.c (m_q (l := [(.ch, (eV 0)), (.fz, (eC (.int (1))))]) (co_ix hr.units) (PEs.c (m_vc 0 (pv 0)) (PEs.c (m_c (.int (1)) pe_int rfl) PEs.nil))) (PEs.c (m_c (.int (5)) pe_int rfl) PEs.nil))) (PEs.c (m_c (.int (39373)) pe_int rfl) PEs.nil))) PEs.nil)) (PEs.c (m_c (.int (2147483543)) pe_int rfl) PEs.nil))) (PEs.c (m_c (.int (16)) pe_int rfl) PEs.nil))) (PEs.c (m_v 1 (pv 1)) PEs.nil))))))))
  have h1 : vs.length = 2 := h.1
  exact ⟨_, rule, by
    have h2 := fn_in (ls := [.fz]) h
    match vs, h1 with
    | [_, _], _ => exact h2⟩
end
section
open NQ
variable {P : Program} {w : World} {K : PySem.W.Frag} {mg : Str → Option Value} {base : Heap}
theorem ok_law_of {f : Addr} {fd : FuncData} (F : FnP K "_law_of" "_law_of" s_law_of f fd) (T : Txt K mg) (C__law_take : Cal P w K mg base 1 "_law_take" ["_law_bag", "_law_many"] (sp_law_take K)) : FnOk P w K mg base (L2.CX P w) 2 f fd ["_law_bag", "_law_some"] (sp_law_of K) := by
  refine F.ok sc_law_of (fun vs H Q E h => h.1) (fun cdv A outer s H vs Q E hr h => ?_)
  have nd := sc_law_of.nd
  have tk := takes_of (E := E) (X := (cxOf (L2.CX P w) P w K mg base ["_law_bag", "_law_some"] "_law_of" (defScope s_law_of) f cdv A outer s H E)) rfl rfl rfl rfl
  have po : PassesOwn (model P w) (cxOf (L2.CX P w) P w K mg base ["_law_bag", "_law_some"] "_law_of" (defScope s_law_of) f cdv A outer s H E).A (cxOf (L2.CX P w) P w K mg base ["_law_bag", "_law_some"] "_law_of" (defScope s_law_of) f cdv A outer s H E).env (cxOf (L2.CX P w) P w K mg base ["_law_bag", "_law_some"] "_law_of" (defScope s_law_of) f cdv A outer s H E).xe := passes_of (X := (cxOf (L2.CX P w) P w K mg base ["_law_bag", "_law_some"] "_law_of" (defScope s_law_of) f cdv A outer s H E)) rfl
  have rule : PSs (cxOf (L2.CX P w) P w K mg base ["_law_bag", "_law_some"] "_law_of" (defScope s_law_of) f cdv A outer s H E) (defBody s_law_of) (SF K cf_law_of (fun cls d _ H => E cls d H) b_law_of) := (ms_one (ms_ret (m_e (os := [.val (qE (eV 1)), .val (fCall [(.all .fz), .fz] f_law_take [.var 0, .val (qE (opq lenT [(eV 1)]))])]) (co_ix hr.units) (PEs.c (m_tf (m_v 1 (pv 1))) (PEs.c (m_call (os := [.var 0, .val (qE (opq lenT [(eV 1)]))]) C__law_take tk (hr.mono (by decide)) (PEs.c (pv 0) (PEs.c (m_tf (m_qr (l := [(.fz, (eV 1))]) (co_len T.n_len) (PEs.c (m_v 1 (pv 1)) PEs.nil))) PEs.nil))) PEs.nil)))))
  have h1 : vs.length = 2 := h.1
  exact ⟨_, rule, by
    have h2 := fn_in (ls := []) h
    match vs, h1 with
    | [_, _], _ => exact h2⟩
end
section
variable {P : Program} {w : World} {K : PySem.W.Frag} {mg : Str → Option Value} {base : Heap}
theorem ok_is_word {f : Addr} {fd : FuncData} (F : FnP K "is_word" "is_word" s_is_word f fd) (T : Txt K mg)   : FnOk P w K mg base (L2.CX P w) 1 f fd ["token"] (sp_is_word K) := by
  refine F.ok sc_is_word (fun vs H Q E h => ?_) (fun cdv A outer s H vs Q E hr h => ?_)
  · obtain ⟨t, rfl, _⟩ := h
    rfl
  · have nd := sc_is_word.nd
    have tk := takes_of (E := E) (X := (cxOf (L2.CX P w) P w K mg base ["token", "char"] "is_word" (defScope s_is_word) f cdv A outer s H E)) rfl rfl rfl rfl
    have po : PassesOwn (model P w) (cxOf (L2.CX P w) P w K mg base ["token", "char"] "is_word" (defScope s_is_word) f cdv A outer s H E).A (cxOf (L2.CX P w) P w K mg base ["token", "char"] "is_word" (defScope s_is_word) f cdv A outer s H E).env (cxOf (L2.CX P w) P w K mg base ["token", "char"] "is_word" (defScope s_is_word) f cdv A outer s H E).xe := passes_of (X := (cxOf (L2.CX P w) P w K mg base ["token", "char"] "is_word" (defScope s_is_word) f cdv A outer s H E)) rfl
    obtain ⟨t, rfl, hl, k⟩ := h
    have hz : t.length ≤ sizeLine := by rw [sizeLine_eq]; omega
    refine ⟨_, (pss_cons (ps_if (PW.pt (pw_or (pt_cmpR (op_dEq K hr.units) (pv 0) pe_str (nomark _)) (pw_or1 (pt_cmpR op_dGt (pe_callB (cl_len K) (by rfl) T.n_len bt_len (pa_cons (pv 0) pa_nil)) pe_int (nomark _))))) (pss_one (ps_ret pe_bl)) pss_nil) (pss_cons (ps_for po rfl (pi_str (pv 0)) (q_name 1 nd) (pss_one (ps_if (pt_cmpR (op_dNotIn K) (pv 1) pe_str (by rfl)) (pss_one (ps_ret pe_bl)) pss_nil))) (pss_one (ps_ret pe_bl)))), ?_⟩
    refine g_start (σ' := some _ :: none :: []) rfl ?_
    walk_at "go"
    refine g_iteD (fun e => ?_) (fun e => ?_)
    · walk_at "go"
      rw [show isWd t = false by unfold isWd; rw [decide_eq_true e]; rfl] at k
      exact k
    · walk_at "go"
      refine g_iteD (fun e2 => ?_) (fun e2 => ?_)
      · walk_at "go"
        rw [show isWd t = false by unfold isWd; rw [decide_eq_true e2, Bool.or_true]; rfl] at k
        exact k
      · walk_at "go"
        refine lp_it walk_str (fun i σ' H' => ∃ v : Option V, σ' = [some (.str t), v] ∧ H' = H ∧ ((t.cps.toList.take i).all fun c => decide (c ∈ lets.cps.toList)) = true) ⟨none, rfl, rfl, rfl⟩ (fun _ _ _ _ _ => trivial) ?_ ?_
        · rintro i x σ' H' H2 hi ⟨v, rfl, rfl, ha⟩ ⟨rfl, c, hc, rfl⟩
          have hc' : t.cps.toList[i]? = some c := by simpa using hc
          walk_at "go"
          refine g_iteN (fun hn => ?_) (fun hn => ?_)
          · walk_at "go"
            have hb := all_no (f := fun c => decide (c ∈ lets.cps.toList)) hc' (decide_eq_false hn)
            rw [show isWd t = false by unfold isWd; rw [hb]; simp] at k
            exact k
          · walk_at "go"
            exact ⟨_, rfl, rfl, all_take_succ hc' (decide_eq_true hn) ha⟩
        · rintro σ' H' ⟨v, rfl, rfl, ha⟩
          have ha' : (t.cps.toList.all fun c => decide (c ∈ lets.cps.toList)) = true := by
            rw [List.take_of_length_le (by simp)] at ha
            exact ha
          rw [show isWd t = true by unfold isWd; rw [ha', decide_eq_false e, decide_eq_false e2]; rfl] at k
          walk_at "go"
          exact k
end
section
variable {P : Program} {w : World} {K : PySem.W.Frag} {mg : Str → Option Value} {base : Heap}
theorem ok_is_name {f : Addr} {fd : FuncData} (F : FnP K "is_name" "is_name" s_is_name f fd) (T : Txt K mg) (C_is_word : Cal P w K mg base 1 "is_word" ["token"] (sp_is_word K))  : FnOk P w K mg base (L2.CX P w) 2 f fd ["token"] (sp_is_name K) := by
  refine F.ok sc_is_name (fun vs H Q E h => ?_) (fun cdv A outer s H vs Q E hr h => ?_)
  · obtain ⟨t, rfl, _⟩ := h
    rfl
  · have nd := sc_is_name.nd
    have tk := takes_of (E := E) (X := (cxOf (L2.CX P w) P w K mg base ["token"] "is_name" (defScope s_is_name) f cdv A outer s H E)) rfl rfl rfl rfl
    have po : PassesOwn (model P w) (cxOf (L2.CX P w) P w K mg base ["token"] "is_name" (defScope s_is_name) f cdv A outer s H E).A (cxOf (L2.CX P w) P w K mg base ["token"] "is_name" (defScope s_is_name) f cdv A outer s H E).env (cxOf (L2.CX P w) P w K mg base ["token"] "is_name" (defScope s_is_name) f cdv A outer s H E).xe := passes_of (X := (cxOf (L2.CX P w) P w K mg base ["token"] "is_name" (defScope s_is_name) f cdv A outer s H E)) rfl
    obtain ⟨t, rfl, hl, k⟩ := h
    refine ⟨_, (pss_one (ps_ret (q_andT K (q_call C_is_word tk (hr.mono (by decide)) (pa_cons (pv 0) pa_nil)) (pe_one (pe_cmpR (op_dNotIn K) (pv 0) (q_glob T.g_RESERVED) (by rfl)))))), ?_⟩
    refine g_start (σ' := some _ :: []) rfl ?_
    walk_at "go"
    refine ⟨t, rfl, hl, ?_⟩
    walk_at "go"
    refine g_ite (fun e => ?_) (fun e => ?_)
    · walk_at "go"
      refine g_ninLs (ns := resW) (Or.inr (T.t_RESERVED H)) ?_
      rw [show isNm t = !decide (t ∈ resW) by unfold isNm; rw [e]; rfl] at k
      exact k
    · rw [show isNm t = false by unfold isNm; rw [e]; rfl] at k
      rw [e]
      exact k
end
section
variable {P : Program} {w : World} {K : PySem.W.Frag} {mg : Str → Option Value} {base : Heap}
theorem ok_Draft___init__ {f : Addr} {fd : FuncData} (F : FnP K "__init__" "Draft.__init__" s_Draft___init__ f fd) (T : Txt K mg)   : FnOk P w K mg base (L2.CX P w) 1 f fd ["self"] (sp_Draft___init__ K) := by
  refine F.ok sc_Draft___init__ (fun vs H Q E h => ?_) (fun cdv A outer s H vs Q E hr h => ?_)
  · obtain ⟨x, dx, rfl, _⟩ := h
    rfl
  · have nd := sc_Draft___init__.nd
    have tk := takes_of (E := E) (X := (cxOf (L2.CX P w) P w K mg base ["self"] "Draft.__init__" (defScope s_Draft___init__) f cdv A outer s H E)) rfl rfl rfl rfl
    have po : PassesOwn (model P w) (cxOf (L2.CX P w) P w K mg base ["self"] "Draft.__init__" (defScope s_Draft___init__) f cdv A outer s H E).A (cxOf (L2.CX P w) P w K mg base ["self"] "Draft.__init__" (defScope s_Draft___init__) f cdv A outer s H E).env (cxOf (L2.CX P w) P w K mg base ["self"] "Draft.__init__" (defScope s_Draft___init__) f cdv A outer s H E).xe := passes_of (X := (cxOf (L2.CX P w) P w K mg base ["self"] "Draft.__init__" (defScope s_Draft___init__) f cdv A outer s H E)) rfl
    obtain ⟨x, dx, rfl, hx0, k⟩ := h
    have cD := T.c_Draft
    have aD0 := T.a_Draft_names
    have aD1 := T.a_Draft_variables
    have aD2 := T.a_Draft_handles
    have aD3 := T.a_Draft_requests
    have aD4 := T.a_Draft_events
    have aD5 := T.a_Draft_handlers
    have aD6 := T.a_Draft_blocks
    have aD7 := T.a_Draft_shown
    have aD8 := T.a_Draft_asked
    
    refine ⟨_, (pss_cons (q_sfld K (pv 0) pe_dnewK) (pss_cons (q_sfld K (pv 0) (pe_lst pa_nil)) (pss_cons (q_sfld K (pv 0) (pe_lst pa_nil)) (pss_cons (q_sfld K (pv 0) (pe_lst pa_nil)) (pss_cons (q_sfld K (pv 0) (pe_lst pa_nil)) (pss_cons (q_sfld K (pv 0) pe_dnewK) (pss_cons (q_sfld K (pv 0) (pe_lst pa_nil)) (pss_cons (q_sfld K (pv 0) (pe_lst pa_nil)) (pss_one (q_sfld K (pv 0) pe_int)))))))))), ?_⟩
    refine g_start (σ' := some _ :: []) rfl ?_
    walk_at "go"
    refine g_dnew fun n hn => ?_
    have zn := hn
    walk_at "go"
    generalize hE1 : upd (upd H n _) x _ = H1
    obtain ⟨e1, hx1, gn, nx_n⟩ := dstep hE1 hn (al_of hx0)
    clear hE1
    have ed1 : Ed [x] H H1 := e1
    refine al fun v hv => ?_
    have zv := (ed1).free hv
    have ne_n_v : n ≠ v := (ne_of_none gn hv)
    walk_at "go"
    generalize hE2 : upd (upd H1 v _) x _ = H2
    obtain ⟨e2, hx2, gv, nx_v⟩ := dstep hE2 hv (al_of hx1)
    clear hE2
    have gn := e2.get (fun z => nx_n (List.mem_singleton.mp z)) gn
    have ed2 : Ed [x] H H2 := ed1.tr e2 (fun a z => .inl z)
    refine al fun h hh => ?_
    have zh := (ed2).free hh
    have ne_n_h : n ≠ h := (ne_of_none gn hh)
    have ne_v_h : v ≠ h := (ne_of_none gv hh)
    walk_at "go"
    generalize hE3 : upd (upd H2 h _) x _ = H3
    obtain ⟨e3, hx3, gh, nx_h⟩ := dstep hE3 hh (al_of hx2)
    clear hE3
    have gn := e3.get (fun z => nx_n (List.mem_singleton.mp z)) gn
    have gv := e3.get (fun z => nx_v (List.mem_singleton.mp z)) gv
    have ed3 : Ed [x] H H3 := ed2.tr e3 (fun a z => .inl z)
    refine al fun r hr => ?_
    have zr := (ed3).free hr
    have ne_n_r : n ≠ r := (ne_of_none gn hr)
    have ne_v_r : v ≠ r := (ne_of_none gv hr)
    have ne_h_r : h ≠ r := (ne_of_none gh hr)
    walk_at "go"
    generalize hE4 : upd (upd H3 r _) x _ = H4
    obtain ⟨e4, hx4, gr, nx_r⟩ := dstep hE4 hr (al_of hx3)
    clear hE4
    have gn := e4.get (fun z => nx_n (List.mem_singleton.mp z)) gn
    have gv := e4.get (fun z => nx_v (List.mem_singleton.mp z)) gv
    have gh := e4.get (fun z => nx_h (List.mem_singleton.mp z)) gh
    have ed4 : Ed [x] H H4 := ed3.tr e4 (fun a z => .inl z)
    refine al fun e he => ?_
    have ze := (ed4).free he
    have ne_n_e : n ≠ e := (ne_of_none gn he)
    have ne_v_e : v ≠ e := (ne_of_none gv he)
    have ne_h_e : h ≠ e := (ne_of_none gh he)
    have ne_r_e : r ≠ e := (ne_of_none gr he)
    walk_at "go"
    generalize hE5 : upd (upd H4 e _) x _ = H5
    obtain ⟨e5, hx5, ge, nx_e⟩ := dstep hE5 he (al_of hx4)
    clear hE5
    have gn := e5.get (fun z => nx_n (List.mem_singleton.mp z)) gn
    have gv := e5.get (fun z => nx_v (List.mem_singleton.mp z)) gv
    have gh := e5.get (fun z => nx_h (List.mem_singleton.mp z)) gh
    have gr := e5.get (fun z => nx_r (List.mem_singleton.mp z)) gr
    have ed5 : Ed [x] H H5 := ed4.tr e5 (fun a z => .inl z)
    refine g_dnew fun hs hhs => ?_
    have zhs := (ed5).free hhs
    have ne_n_hs : n ≠ hs := (ne_of_none gn hhs)
    have ne_v_hs : v ≠ hs := (ne_of_none gv hhs)
    have ne_h_hs : h ≠ hs := (ne_of_none gh hhs)
    have ne_r_hs : r ≠ hs := (ne_of_none gr hhs)
    have ne_e_hs : e ≠ hs := (ne_of_none ge hhs)
    walk_at "go"
    generalize hE6 : upd (upd H5 hs _) x _ = H6
    obtain ⟨e6, hx6, ghs, nx_hs⟩ := dstep hE6 hhs (al_of hx5)
    clear hE6
    have gn := e6.get (fun z => nx_n (List.mem_singleton.mp z)) gn
    have gv := e6.get (fun z => nx_v (List.mem_singleton.mp z)) gv
    have gh := e6.get (fun z => nx_h (List.mem_singleton.mp z)) gh
    have gr := e6.get (fun z => nx_r (List.mem_singleton.mp z)) gr
    have ge := e6.get (fun z => nx_e (List.mem_singleton.mp z)) ge
    have ed6 : Ed [x] H H6 := ed5.tr e6 (fun a z => .inl z)
    refine al fun bl hbl => ?_
    have zbl := (ed6).free hbl
    have ne_n_bl : n ≠ bl := (ne_of_none gn hbl)
    have ne_v_bl : v ≠ bl := (ne_of_none gv hbl)
    have ne_h_bl : h ≠ bl := (ne_of_none gh hbl)
    have ne_r_bl : r ≠ bl := (ne_of_none gr hbl)
    have ne_e_bl : e ≠ bl := (ne_of_none ge hbl)
    have ne_hs_bl : hs ≠ bl := (ne_of_none ghs hbl)
    walk_at "go"
    generalize hE7 : upd (upd H6 bl _) x _ = H7
    obtain ⟨e7, hx7, gbl, nx_bl⟩ := dstep hE7 hbl (al_of hx6)
    clear hE7
    have gn := e7.get (fun z => nx_n (List.mem_singleton.mp z)) gn
    have gv := e7.get (fun z => nx_v (List.mem_singleton.mp z)) gv
    have gh := e7.get (fun z => nx_h (List.mem_singleton.mp z)) gh
    have gr := e7.get (fun z => nx_r (List.mem_singleton.mp z)) gr
    have ge := e7.get (fun z => nx_e (List.mem_singleton.mp z)) ge
    have ghs := e7.get (fun z => nx_hs (List.mem_singleton.mp z)) ghs
    have ed7 : Ed [x] H H7 := ed6.tr e7 (fun a z => .inl z)
    refine al fun sh hsh => ?_
    have zsh := (ed7).free hsh
    have ne_n_sh : n ≠ sh := (ne_of_none gn hsh)
    have ne_v_sh : v ≠ sh := (ne_of_none gv hsh)
    have ne_h_sh : h ≠ sh := (ne_of_none gh hsh)
    have ne_r_sh : r ≠ sh := (ne_of_none gr hsh)
    have ne_e_sh : e ≠ sh := (ne_of_none ge hsh)
    have ne_hs_sh : hs ≠ sh := (ne_of_none ghs hsh)
    have ne_bl_sh : bl ≠ sh := (ne_of_none gbl hsh)
    walk_at "go"
    generalize hE8 : upd (upd H7 sh _) x _ = H8
    obtain ⟨e8, hx8, gsh, nx_sh⟩ := dstep hE8 hsh (al_of hx7)
    clear hE8
    have gn := e8.get (fun z => nx_n (List.mem_singleton.mp z)) gn
    have gv := e8.get (fun z => nx_v (List.mem_singleton.mp z)) gv
    have gh := e8.get (fun z => nx_h (List.mem_singleton.mp z)) gh
    have gr := e8.get (fun z => nx_r (List.mem_singleton.mp z)) gr
    have ge := e8.get (fun z => nx_e (List.mem_singleton.mp z)) ge
    have ghs := e8.get (fun z => nx_hs (List.mem_singleton.mp z)) ghs
    have gbl := e8.get (fun z => nx_bl (List.mem_singleton.mp z)) gbl
    have ed8 : Ed [x] H H8 := ed7.tr e8 (fun a z => .inl z)
    walk_at "go"
    generalize hE9 : upd H8 x _ = H9
    have e9 : Ed [x] H8 H9 := by subst hE9; exact Ed.put
    have hx9 : H9 x = some (.ins (He.ga K "Draft") dx (drF n v h r e hs bl sh 0)) := by subst hE9; exact upd_same
    have kp : ∀ {a : Addr} {o : HO}, a ≠ x → H8 a = some o → H9 a = some o := fun n q => e9.get (fun z => n (List.mem_singleton.mp z)) q
    refine k n v h r e hs bl sh H9 ⟨⟨dx, hx9⟩, kp nx_n gn, kp nx_v gv, kp nx_h gh, kp nx_r gr, kp nx_e ge, kp nx_hs ghs, kp nx_bl gbl, kp nx_sh gsh, ?_, Ne.symm ne_n_hs⟩ ?_ (ed8.tr e9 fun a z => .inl z)
    · simp [ne_v_h, ne_v_r, ne_v_e, ne_v_bl, ne_v_sh, ne_h_r, ne_h_e, ne_h_bl, ne_h_sh, ne_r_e, ne_r_bl, ne_r_sh, ne_e_bl, ne_e_sh, ne_bl_sh]
    · intro a ha
      simp only [List.mem_cons, List.not_mem_nil, or_false] at ha
      rcases ha with rfl | rfl | rfl | rfl | rfl | rfl | rfl | rfl <;> assumption
end
section
variable {P : Program} {w : World} {K : PySem.W.Frag} {mg : Str → Option Value} {base : Heap}
theorem ok_Draft_begin_handler {f : Addr} {fd : FuncData} (F : FnP K "begin_handler" "Draft.begin_handler" s_Draft_begin_handler f fd) (T : Txt K mg)   : FnOk P w K mg base (L2.CX P w) 1 f fd ["self", "tokens"] (sp_Draft_begin_handler K) := by
  refine F.ok sc_Draft_begin_handler (fun vs H Q E h => ?_) (fun cdv A outer s H vs Q E hr h => ?_)
  · obtain ⟨x, y, rfl, _⟩ := h
    rfl
  · have nd := sc_Draft_begin_handler.nd
    have tk := takes_of (E := E) (X := (cxOf (L2.CX P w) P w K mg base ["self", "tokens", "word", "name", "wanted"] "Draft.begin_handler" (defScope s_Draft_begin_handler) f cdv A outer s H E)) rfl rfl rfl rfl
    have po : PassesOwn (model P w) (cxOf (L2.CX P w) P w K mg base ["self", "tokens", "word", "name", "wanted"] "Draft.begin_handler" (defScope s_Draft_begin_handler) f cdv A outer s H E).A (cxOf (L2.CX P w) P w K mg base ["self", "tokens", "word", "name", "wanted"] "Draft.begin_handler" (defScope s_Draft_begin_handler) f cdv A outer s H E).env (cxOf (L2.CX P w) P w K mg base ["self", "tokens", "word", "name", "wanted"] "Draft.begin_handler" (defScope s_Draft_begin_handler) f cdv A outer s H E).xe := passes_of (X := (cxOf (L2.CX P w) P w K mg base ["self", "tokens", "word", "name", "wanted"] "Draft.begin_handler" (defScope s_Draft_begin_handler) f cdv A outer s H E)) rfl
    obtain ⟨_, _, _, h⟩ := h
    exact h.elim
end
section
variable {P : Program} {w : World} {K : PySem.W.Frag} {mg : Str → Option Value} {base : Heap}
theorem ok_Draft_take_inside {f : Addr} {fd : FuncData} (F : FnP K "take_inside" "Draft.take_inside" s_Draft_take_inside f fd) (T : Txt K mg)   : FnOk P w K mg base (L2.CX P w) 1 f fd ["self", "tokens"] (sp_Draft_take_inside K) := by
  refine F.ok sc_Draft_take_inside (fun vs H Q E h => ?_) (fun cdv A outer s H vs Q E hr h => ?_)
  · obtain ⟨x, y, rfl, _⟩ := h
    rfl
  · have nd := sc_Draft_take_inside.nd
    have tk := takes_of (E := E) (X := (cxOf (L2.CX P w) P w K mg base ["self", "tokens", "block", "statement"] "Draft.take_inside" (defScope s_Draft_take_inside) f cdv A outer s H E)) rfl rfl rfl rfl
    have po : PassesOwn (model P w) (cxOf (L2.CX P w) P w K mg base ["self", "tokens", "block", "statement"] "Draft.take_inside" (defScope s_Draft_take_inside) f cdv A outer s H E).A (cxOf (L2.CX P w) P w K mg base ["self", "tokens", "block", "statement"] "Draft.take_inside" (defScope s_Draft_take_inside) f cdv A outer s H E).env (cxOf (L2.CX P w) P w K mg base ["self", "tokens", "block", "statement"] "Draft.take_inside" (defScope s_Draft_take_inside) f cdv A outer s H E).xe := passes_of (X := (cxOf (L2.CX P w) P w K mg base ["self", "tokens", "block", "statement"] "Draft.take_inside" (defScope s_Draft_take_inside) f cdv A outer s H E)) rfl
    obtain ⟨_, _, _, h⟩ := h
    exact h.elim
end
section
variable {P : Program} {w : World} {K : PySem.W.Frag} {mg : Str → Option Value} {base : Heap}
theorem ok_Draft_take_outside {f : Addr} {fd : FuncData} (F : FnP K "take_outside" "Draft.take_outside" s_Draft_take_outside f fd) (T : Txt K mg) (C_is_name : Cal P w K mg base 2 "is_name" ["token"] (sp_is_name K)) (N_Draft_begin_handler : MtC P w K mg base 1 (He.ga K "Draft") "begin_handler" ["self", "tokens"] (sp_Draft_begin_handler K))  : FnOk P w K mg base (L2.CX P w) 3 f fd ["self", "tokens"] (sp_Draft_take_outside K) := by
  refine F.ok sc_Draft_take_outside (fun vs H Q E h => ?_) (fun cdv A outer s H vs Q E hr h => ?_)
  · obtain ⟨W, x, tp, n, v, h, r, e, hs, bl, sh, k, rest, rfl, _⟩ := h
    rfl
  · have nd := sc_Draft_take_outside.nd
    have tk := takes_of (E := E) (X := (cxOf (L2.CX P w) P w K mg base ["self", "tokens", "kind", "name", "rest", "rows", "row", "fits"] "Draft.take_outside" (defScope s_Draft_take_outside) f cdv A outer s H E)) rfl rfl rfl rfl
    have po : PassesOwn (model P w) (cxOf (L2.CX P w) P w K mg base ["self", "tokens", "kind", "name", "rest", "rows", "row", "fits"] "Draft.take_outside" (defScope s_Draft_take_outside) f cdv A outer s H E).A (cxOf (L2.CX P w) P w K mg base ["self", "tokens", "kind", "name", "rest", "rows", "row", "fits"] "Draft.take_outside" (defScope s_Draft_take_outside) f cdv A outer s H E).env (cxOf (L2.CX P w) P w K mg base ["self", "tokens", "kind", "name", "rest", "rows", "row", "fits"] "Draft.take_outside" (defScope s_Draft_take_outside) f cdv A outer s H E).xe := passes_of (X := (cxOf (L2.CX P w) P w K mg base ["self", "tokens", "kind", "name", "rest", "rows", "row", "fits"] "Draft.take_outside" (defScope s_Draft_take_outside) f cdv A outer s H E)) rfl
    obtain ⟨W, x, tp, n, v, h, r, e, hs, bl, sh, k, rest, rfl, F0, htp, hw, hnW, ⟨hrl, hrs, hgd⟩, kF, kT⟩ := h
    have hx := F0.px
    obtain ⟨dx, hx⟩ := hx
    have cD := T.c_Draft
    have aD0 := T.a_Draft_names
    have aD1 := T.a_Draft_variables
    have aD2 := T.a_Draft_handles
    have aD3 := T.a_Draft_requests
    have aD4 := T.a_Draft_events
    have aD5 := T.a_Draft_handlers
    have aD6 := T.a_Draft_blocks
    have aD7 := T.a_Draft_shown
    have aD8 := T.a_Draft_asked
    
    refine ⟨_, (pss_cons (ps_if (pt_cmpR (op_dIn K) (pe_ix (ix_dyn K) (pv 1) pe_int (fun _ _ => rfl)) (pe_tup (pa_cons pe_str (pa_cons pe_str pa_nil))) (by rfl)) (pss_one (ps_ret (q_meth N_Draft_begin_handler tk (hr.mono (by decide)) (pv 0) (pa_cons (pv 1) pa_nil)))) pss_nil) (pss_cons (ps_if (PW.pt (pw_or (q_truth K (q_fld K (pv 0))) (pw_or (pt_cmpR op_dLt (pe_callB (cl_len K) (by rfl) T.n_len bt_len (pa_cons (pv 1) pa_nil)) pe_int (nomark _)) (pw_or (pt_not (q_truth K (q_call C_is_name tk (hr.mono (by decide)) (pa_cons (pe_ix (ix_dyn K) (pv 1) pe_int (fun _ _ => rfl)) pa_nil)))) (pw_or1 (pt_cmp (pc_din (units1 hr.units) (pe_ix (ix_dyn K) (pv 1) pe_int (fun _ _ => rfl)) (q_fld K (pv 0))))))))) (pss_one (ps_ret pe_bl)) pss_nil) (pss_cons (ps_asg (pv 1) (q_starL K 2 (pgs_cons (q_name 2 nd) (pgs_cons (q_name 3 nd) (pgs_star (q_name 4 nd)))))) (pss_cut (ps_match (pv 2) (pmc_cons pp_val (pss_one (ps_par3 (i := 5) (j := 6) (l := 7) (by rfl) nd rfl rfl rfl (by decide) (by decide) (by decide) rfl rfl rfl (pa_cons (q_fld K (pv 0)) (pa_cons (pv 3) (pa_cons (pe_cmpR (op_dEq K hr.units) (pv 4) (pe_lst pa_nil) (nomark _)) pa_nil))) (by rfl))) (pmc_cons pp_val (pss_one (ps_par3 (i := 5) (j := 6) (l := 7) (by rfl) nd rfl rfl rfl (by decide) (by decide) (by decide) rfl rfl rfl (pa_cons (q_fld K (pv 0)) (pa_cons (pe_tup (pa_cons (pv 3) (q_star K (pv 4) pa_nil))) (pa_cons (pe_cmpR (op_dEq K hr.units) (pe_callB (cl_len K) (by rfl) T.n_len bt_len (pa_cons (pv 4) pa_nil)) pe_int (nomark _)) pa_nil))) (by rfl))) (pmc_cons pp_val (pss_one (ps_par3 (i := 5) (j := 6) (l := 7) (by rfl) nd rfl rfl rfl (by decide) (by decide) (by decide) rfl rfl rfl (pa_cons (q_fld K (pv 0)) (pa_cons (pe_tup (pa_cons (pv 3) (q_star K (pv 4) pa_nil))) (pa_cons (pe_cmpR (op_dEq K hr.units) (pe_callB (cl_len K) (by rfl) T.n_len bt_len (pa_cons (pv 4) pa_nil)) pe_int (nomark _)) pa_nil))) (by rfl))) (pmc_cons pp_val (pss_cons (ps_par (i := 5) (j := 6) (by rfl) nd rfl rfl (by decide) rfl rfl (pa_cons (q_fld K (pv 0)) (pa_cons (pe_tup (pa_cons (pv 3) (q_star K (pv 4) pa_nil))) pa_nil)) (by rfl)) (pss_one (q_set 7 nd (q_andT K (pe_cmpR (op_dEq K hr.units) (pe_callB (cl_len K) (by rfl) T.n_len bt_len (pa_cons (pv 4) pa_nil)) pe_int (nomark _)) (pe_one (pe_cmpR (op_dIn K) (pe_ix (ix_dyn K) (pv 4) pe_int (fun _ _ => rfl)) (pe_tup (pa_cons pe_str (pa_cons pe_str pa_nil))) (by rfl))))))) (pmc_any (pss_one (ps_ret pe_bl)))))))) (pss_cut (ps_if (PW.pt (pw_or (pt_not (q_truth K (pv 7))) (pw_or (PW.pt (pw_and (q_truth K (pv 4)) (pw_and1 (pt_cmpR (op_dNotIn K) (pe_ix (ix_dyn K) (pv 4) pe_int (fun _ _ => rfl)) (pe_tup (pa_cons pe_str (pa_cons pe_str (pa_cons pe_str (pa_cons pe_str pa_nil))))) (by rfl))))) (pw_or1 (pt_cmpR (op_dEq K hr.units) (pe_callB (cl_len K) (by rfl) T.n_len bt_len (pa_cons (pv 5) pa_nil)) (q_glob T.g_MOST_NAMES) (nomark _)))))) (pss_one (ps_ret pe_bl)) pss_nil) (pss_cons (ps_dput (units1 hr.units) (q_fld K (pv 0)) (pv 3) (pe_tup (pa_cons (pv 2) (pa_cons (pe_callB (cl_len K) (by rfl) T.n_len bt_len (pa_cons (pv 5) pa_nil)) pa_nil))) rfl) (pss_cut (ps_if (q_truth K (pv 4)) (pss_one (q_set 6 nd (pe_tup (pa_cons (pv 3) (pa_cons (pe_callTy cl_int (by rfl) T.n_int bt_int (pa_cons (pe_ix (ix_dyn K) (pv 4) pe_int (fun _ _ => rfl)) pa_nil)) (q_star K (pe_slice (sl_dyn K) (pv 4) (po_some pe_int) po_none) pa_nil)))))) pss_nil) (pss_cons (ps_expr (q_bm K PySem.F.plainAttrs_list PySem.F.slot_list_append PySem.F.type_list_append m_append (pv 5) (pa_cons (pv 6) pa_nil))) (pss_one (ps_ret pe_bl)))))))))), ?_⟩
    refine g_start (σ' := some _ :: some _ :: none :: none :: none :: none :: none :: none :: []) rfl ?_
    walk_at "go"
    refine g_ix_l (Or.inl (SqL.of htp)) (atI_of (i := 0) rfl) ?_
    walk_at "go"
    refine al fun q1 hq1 => ?_
    generalize hH1 : upd H q1 _ = H1
    obtain ⟨e1, dq1⟩ := new_t (W := []) hH1 hq1 (by walk_at "dfs") (by walk_at "wl")
    clear hH1
    obtain ⟨_, _, gq1, rq1⟩ := dq1.cellsT
    have gq1 : H1 q1 = some (.tup ((["on", "answer"] : List Str).map V.str)) := by rw [gq1, DfAll.strs' (xs := ["on", "answer"]) rq1]
    refine g_inLs (ns := ["on", "answer"]) (Or.inr (SqT.of gq1)) ?_
    walk_at "go"
    refine g_iteF (decide_eq_false k.not_on) ?_
    clear gq1 rq1 dq1 hx
    have F1 := F0.ed e1
    have htp1 := e1.get List.not_mem_nil htp
    clear F0 htp
    obtain ⟨⟨dx, hx⟩, hn, hv, hh, hr', he, hhs, hbl, hsh, nd', nh⟩ := F1
    walk_at "go"
    refine tru_d hhs ?_
    refine g_iteF rfl ?_
    walk_at "go"
    cases rest with
    | nil =>
      refine g_iteD (fun _ => ?_) (fun z => absurd (show ((1 : Nat) : Int) < 2 by decide) z)
      walk_at "go"
      exact kF _ rfl e1
    | cons t rest =>
      refine g_iteD (fun z => absurd z (by show ¬ (((t :: rest).map V.str).length + 1 : Nat) < (2 : Int); simp; omega)) (fun _ => ?_)
      walk_at "go"
      refine g_ix_l (Or.inl (SqL.of htp1)) (atI_of (i := 1) rfl) ?_
      walk_at "go"
      refine ⟨t, rfl, by have := hrs t (List.mem_cons_self ..); omega, ?_⟩
      walk_at "go"
      refine g_ite (fun ez => ?_) (fun ez => ?_)
      · walk_at "go"
        refine kF _ ?_ e1
        simpa [nmOf] using ez
      have ht : isNm t = true := by simpa using ez
      obtain rfl := hgd t rest rfl ht
      walk_at "go"
      refine g_ix_l (Or.inl (SqL.of htp1)) (atI_of (i := 1) rfl) ?_
      walk_at "go"
      refine g_dind (W := []) (o := none) ⟨List.not_mem_nil, hn⟩ rfl ?_
      walk_at "go"
      refine g_iteF rfl ?_
      walk_at "go"
      refine g_starL (SqL.of htp1) (by rw [List.length_map, List.length_cons, List.length_cons]; omega) (by rw [List.length_map]; have := hrl; simp only [List.length_cons] at this ⊢; omega) fun rp hrp => ?_
      generalize hE2 : upd H1 rp _ = H2
      obtain ⟨e2, hrp2⟩ : Ed [] H1 H2 ∧ H2 rp = some (.lst (k.tail.map V.str)) := by subst hE2; exact ⟨Ed.new hrp, upd_same⟩
      clear hE2
      have F2 : Fd K H2 x n v h r e hs bl sh := Fd.ed ⟨⟨dx, hx⟩, hn, hv, hh, hr', he, hhs, hbl, hsh, nd', nh⟩ e2
      clear hx hn hv hh hr' he hhs hbl hsh nd' nh dx
      have e02 := e1.tr e2 no0
      clear e1 e2
      obtain ⟨⟨dx, hx⟩, hn, hv, hh, hr', he, hhs, hbl, hsh, nd', nh⟩ := F2
      show gCons _ _ [V.str k.s, V.str t, V.ref rp] _ _ _
      walk_at "go"
      refine g_cut (fun σ' H' => ∃ row : V, σ' = [some (.ref x), some (.ref tp), some (.str k.s), some (.str t), some (.ref rp), some (.ref (k.sel v h r e)), some row, some (.bl true)] ∧ (k = .hnd → row = .str t) ∧ Ed [] H2 H') (fun R hR => ?_) ?_
      · cases k
        · have hrp2 : H2 rp = some (.lst [.str "1"]) := hrp2
          walk_at "go"
          refine g_iteF (by decide +kernel) ?_
          walk_at "go"
          refine g_iteT (by decide +kernel) ?_
          walk_at "go"
          refine g_starred hrp2 ?_
          walk_at "go"
          refine al fun q3 hq3 => ?_
          generalize hE3 : upd H2 q3 _ = H3
          obtain e3 : Ed [] H2 H3 := by subst hE3; exact Ed.new hq3
          have hrp3 := e3.get List.not_mem_nil hrp2
          walk_at "go"
          exact hR _ _ ⟨_, rfl, (fun z => nomatch z), e3⟩
        · have hrp2 : H2 rp = some (.lst []) := hrp2
          walk_at "go"
          refine g_iteT (by decide +kernel) ?_
          walk_at "go"
          refine al fun q3 hq3 => ?_
          generalize hH3 : upd H2 q3 _ = H3
          obtain ⟨e3, dq3⟩ := new_l (W := []) hH3 hq3 (by walk_at "dfs") (by walk_at "wl")
          clear hH3
          refine g_eqd (W := []) (W' := []) (d := .list []) (e := .list []) (Df.lst List.not_mem_nil (e3.get List.not_mem_nil hrp2) .nil) dq3 Sh.nil Sh.nil ?_
          walk_at "go"
          exact hR _ _ ⟨_, rfl, fun _ => rfl, e3⟩
        · have hrp2 : H2 rp = some (.lst [.str "0", .str "replace"]) := hrp2
          walk_at "go"
          refine g_iteF (by decide +kernel) ?_
          walk_at "go"
          refine g_iteF (by decide +kernel) ?_
          walk_at "go"
          refine g_iteF (by decide +kernel) ?_
          walk_at "go"
          refine g_iteT (by decide +kernel) ?_
          walk_at "go"
          refine g_starred hrp2 ?_
          walk_at "go"
          refine al fun q3 hq3 => ?_
          generalize hE3 : upd H2 q3 _ = H3
          obtain e3 : Ed [] H2 H3 := by subst hE3; exact Ed.new hq3
          have hrp3 := e3.get List.not_mem_nil hrp2
          walk_at "go"
          refine g_iteT rfl ?_
          walk_at "go"
          refine al fun q4 hq4 => ?_
          refine g_inLs (ns := ["refuse", "replace"]) (Or.inr (SqT.of upd_same)) ?_
          walk_at "go"
          exact hR _ _ ⟨_, by rw [show decide (("replace" : Str) ∈ (["refuse", "replace"] : List Str)) = true by decide +kernel]; rfl, (fun z => nomatch z), e3.tr (Ed.new hq4) no0⟩
        · have hrp2 : H2 rp = some (.lst [.str "3"]) := hrp2
          walk_at "go"
          refine g_iteF (by decide +kernel) ?_
          walk_at "go"
          refine g_iteF (by decide +kernel) ?_
          walk_at "go"
          refine g_iteT (by decide +kernel) ?_
          walk_at "go"
          refine g_starred hrp2 ?_
          walk_at "go"
          refine al fun q3 hq3 => ?_
          generalize hE3 : upd H2 q3 _ = H3
          obtain e3 : Ed [] H2 H3 := by subst hE3; exact Ed.new hq3
          have hrp3 := e3.get List.not_mem_nil hrp2
          walk_at "go"
          exact hR _ _ ⟨_, rfl, (fun z => nomatch z), e3⟩
      rintro σ' H3 ⟨row, rfl, hrow, e3⟩
      have hrp3 := e3.get List.not_mem_nil hrp2
      have F3 : Fd K H3 x n v h r e hs bl sh := Fd.ed ⟨⟨dx, hx⟩, hn, hv, hh, hr', he, hhs, hbl, hsh, nd', nh⟩ e3
      have e03 := e02.tr e3 no0
      clear hx hn hv hh hr' he hhs hbl hsh nd' nh dx e02 e3 hrp2
      obtain ⟨⟨dx, hx⟩, hn, hv, hh, hr', he, hhs, hbl, hsh, nd', nh⟩ := F3
      have hrw : H3 (k.sel v h r e) = some (.lst []) := by cases k <;> assumption
      refine g_cut (fun σ' H' => σ' = [some (.ref x), some (.ref tp), some (.str k.s), some (.str t), some (.ref rp), some (.ref (k.sel v h r e)), some row, some (.bl true)] ∧ Ed [] H3 H') (fun R hR => ?_) ?_
      · walk_at "go"
        try dsimp only
        walk_at "go"
        refine tru_l (SqL.of hrp3) ?_
        try dsimp only
        have fin : ∀ {H4 : Hp}, Ed [] H3 H4 → tTest (tOp (dEq K) (tCB (dLen K) (tCons (tVar 5) tNil)) (tC (V.int 3))) [some (V.ref x), some (V.ref tp), some (V.str k.s), some (V.str t), some (V.ref rp), some (V.ref (Kd.sel v h r e k)), some row, some (V.bl true)] H4 fun c H1 =>
            if c = true then tRet (tC (V.bl false)) { nx := R, rt := Q } [some (V.ref x), some (V.ref tp), some (V.str k.s), some (V.str t), some (V.ref rp), some (V.ref (Kd.sel v h r e k)), some row, some (V.bl true)] H1 else tNext { nx := R, rt := Q } [some (V.ref x), some (V.ref tp), some (V.str k.s), some (V.str t), some (V.ref rp), some (V.ref (Kd.sel v h r e k)), some row, some (V.bl true)] H1 := fun {H4} e4 => by
          have hrw4 := e4.get List.not_mem_nil hrw
          walk_at "go"
          refine g_iteF (by decide) ?_
          walk_at "go"
          exact hR _ _ ⟨rfl, e4⟩
        have dig : ∀ d rest', k.tail = d :: rest' → d ∈ (["0", "1", "2", "3"] : List Str) := by
          intro d r' hd
          cases k <;> simp [Kd.tail] at hd
          · obtain ⟨rfl, _⟩ := hd; decide +kernel
          · obtain ⟨rfl, _⟩ := hd; decide +kernel
          · obtain ⟨rfl, _⟩ := hd; decide +kernel
        cases hk : k.tail with
        | nil =>
          refine g_iteF rfl ?_
          refine g_iteF rfl ?_
          exact fin Ed.refl
        | cons d r' =>
          rw [hk] at hrp3
          refine g_iteT rfl ?_
          walk_at "go"
          refine g_ix_l (Or.inl (SqL.of hrp3)) (atI_of (i := 0) rfl) ?_
          walk_at "go"
          refine al fun q5 hq5 => ?_
          refine g_ninLs (ns := ["0", "1", "2", "3"]) (Or.inr (SqT.of upd_same)) ?_
          walk_at "go"
          try dsimp only
          refine g_iteF (by rw [decide_eq_true (dig d r' hk)]; rfl) ?_
          exact fin (Ed.new hq5)
      rintro σ' H4 ⟨rfl, e4⟩
      have hrp4 := e4.get List.not_mem_nil hrp3
      have hrw4 := e4.get List.not_mem_nil hrw
      have F4 : Fd K H4 x n v h r e hs bl sh := Fd.ed ⟨⟨dx, hx⟩, hn, hv, hh, hr', he, hhs, hbl, hsh, nd', nh⟩ e4
      have e04 := e03.tr e4 no0
      clear hx hn hv hh hr' he hhs hbl hsh nd' nh dx e03 e4 hrp3 hrw
      obtain ⟨⟨dx, hx⟩, hn, hv, hh, hr', he, hhs, hbl, hsh, nd', nh⟩ := F4
      walk_at "go"
      refine al fun q6 hq6 => ?_
      walk_at "go"
      refine g_dps (by walk_at "hp") (by rw [sizeLine_eq]; exact Nat.lt_of_sub_eq_succ rfl) ?_
      generalize hE5 : upd (upd H4 q6 _) n _ = H5
      obtain ⟨e5, hn5, _, nq6⟩ := dstep hE5 hq6 (al_of hn)
      clear hE5
      have hnl : ∀ {a : Addr} {xs : List V}, H4 a = some (.lst xs) → a ≠ n := fun ha z => by rw [z, hn] at ha; cases ha
      have g5 : ∀ {a : Addr} {xs : List V}, H4 a = some (.lst xs) → H5 a = some (.lst xs) := fun ha => e5.get (fun z => hnl ha (List.mem_singleton.mp z)) ha
      have hrp5 := g5 hrp4
      have hrw5 := g5 hrw4
      have e05 : Ed [n] H H5 := (e04.weak no0).tr e5 fun a z => .inl z
      have w5 : Wl (k.sel v h r e :: W) H5 := Wl.cons' (al_of hrw5) (hw.ed e05)
      refine g_cut (fun σ' H' => ∃ row, σ' = [some (.ref x), some (.ref tp), some (.str k.s), some (.str t), some (.ref rp), some (.ref (k.sel v h r e)), some row, some (.bl true)] ∧ Ed [] H5 H' ∧ Df (k.sel v h r e :: W) H' row (k.row t)) (fun R hR => ?_) ?_
      · walk_at "go"
        refine tru_l (SqL.of hrp5) ?_
        try dsimp only
        cases k
        · have hrp5 : H5 rp = some (.lst [.str "1"]) := hrp5
          refine g_iteT rfl ?_
          walk_at "go"
          refine ⟨1, by decide +kernel, by decide, ?_⟩
          walk_at "go"
          intro l7 hl7
          generalize hE7 : upd H5 l7 _ = H7
          obtain ⟨e7, g7⟩ : Ed [] H5 H7 ∧ H7 l7 = some (.lst []) := by subst hE7; exact ⟨Ed.new hl7, upd_same⟩
          clear hE7
          refine g_starred g7 ?_
          walk_at "go"
          refine al fun q8 hq8 => ?_
          generalize hH8 : upd H7 q8 _ = H8
          obtain ⟨e8, dq8⟩ := new_t (W := (Kd.sel v h r e .var :: W)) hH8 hq8 (by walk_at "dfs") (by walk_at "wl")
          clear hH8
          walk_at "go"
          exact hR _ _ ⟨_, rfl, e7.tr e8 no0, dq8⟩
        · refine g_iteF rfl ?_
          walk_at "go"
          obtain rfl := hrow rfl
          exact hR _ _ ⟨_, rfl, Ed.refl, Df.str _⟩
        · have hrp5 : H5 rp = some (.lst [.str "0", .str "replace"]) := hrp5
          refine g_iteT rfl ?_
          walk_at "go"
          refine ⟨0, by decide +kernel, by decide, ?_⟩
          walk_at "go"
          intro l7 hl7
          generalize hE7 : upd H5 l7 _ = H7
          obtain ⟨e7, g7⟩ : Ed [] H5 H7 ∧ H7 l7 = some (.lst [.str "replace"]) := by subst hE7; exact ⟨Ed.new hl7, upd_same⟩
          clear hE7
          refine g_starred g7 ?_
          walk_at "go"
          refine al fun q8 hq8 => ?_
          generalize hH8 : upd H7 q8 _ = H8
          obtain ⟨e8, dq8⟩ := new_t (W := (Kd.sel v h r e .req :: W)) hH8 hq8 (by walk_at "dfs") (by walk_at "wl")
          clear hH8
          walk_at "go"
          exact hR _ _ ⟨_, rfl, e7.tr e8 no0, dq8⟩
        · have hrp5 : H5 rp = some (.lst [.str "3"]) := hrp5
          refine g_iteT rfl ?_
          walk_at "go"
          refine ⟨3, by decide +kernel, by decide, ?_⟩
          walk_at "go"
          intro l7 hl7
          generalize hE7 : upd H5 l7 _ = H7
          obtain ⟨e7, g7⟩ : Ed [] H5 H7 ∧ H7 l7 = some (.lst []) := by subst hE7; exact ⟨Ed.new hl7, upd_same⟩
          clear hE7
          refine g_starred g7 ?_
          walk_at "go"
          refine al fun q8 hq8 => ?_
          generalize hH8 : upd H7 q8 _ = H8
          obtain ⟨e8, dq8⟩ := new_t (W := (Kd.sel v h r e .evt :: W)) hH8 hq8 (by walk_at "dfs") (by walk_at "wl")
          clear hH8
          walk_at "go"
          exact hR _ _ ⟨_, rfl, e7.tr e8 no0, dq8⟩
      rintro σ' H6 ⟨row, rfl, e6, drow⟩
      have hrw6 := e6.get List.not_mem_nil hrw5
      walk_at "go"
      refine g_app hrw6 (by rw [sizeLine_eq]; exact Nat.lt_of_sub_eq_succ rfl) ?_
      generalize hE7 : upd H6 _ _ = H7
      obtain ⟨e7, g7⟩ : Ed [k.sel v h r e] H6 H7 ∧ H7 (k.sel v h r e) = some (.lst [row]) := by subst hE7; exact ⟨Ed.put, upd_same⟩
      clear hE7
      have e06 : Ed [n] H H6 := e05.tr e6 no0
      have g6 : ∀ {a : Addr} {xs : List V}, H4 a = some (.lst xs) → H6 a = some (.lst xs) := fun ha => e6.get List.not_mem_nil (g5 ha)
      have g67 : ∀ {a : Addr} {xs : List V}, a ≠ k.sel v h r e → H6 a = some (.lst xs) → H7 a = some (.lst xs) := fun ne ha => e7.get (fun z => ne (List.mem_singleton.mp z)) ha
      have esel : Ed [n, v, h, r, e] H H7 := (e06.weak fun a z => by rw [List.mem_singleton.mp z]; exact List.mem_cons_self ..).tr e7 fun a z => .inl (by
        rw [List.mem_singleton.mp z]
        cases k <;> simp [Kd.sel])
      have nsel : k.sel v h r e ∉ W := hnW _ (by cases k <;> simp [Kd.sel])
      have drow7 : Df W H7 row (k.row t) := (drow.ed e7 (sub1 (List.mem_cons_self ..))).weak fun a z => List.mem_cons_of_mem _ z
      walk_at "go"
      refine kT t H7 rfl ht ?_ esel
      have one : ∀ {a : Addr}, k.sel v h r e = a → Df W H7 (.ref a) (.list [k.row t]) := fun {a} z => by subst z; exact .lst nsel g7 (.cons drow7 .nil)
      have non : ∀ {a : Addr}, a ∈ [v, h, r, e] → H4 a = some (.lst []) → a ≠ k.sel v h r e → Df W H7 (.ref a) (.list []) := fun {a} m z ne => .lst (hnW a m) (g67 ne (g6 z)) .nil
      simp only [List.nodup_cons, List.mem_cons, List.not_mem_nil, or_false, not_or] at nd'
      obtain ⟨⟨d1, d2, d3, _⟩, ⟨d4, d5, _⟩, ⟨d6, _⟩, _⟩ := nd'
      cases k
      · exact ⟨one rfl, non (by simp) hh (Ne.symm d1), non (by simp) hr' (Ne.symm d2), non (by simp) he (Ne.symm d3)⟩
      · exact ⟨non (by simp) hv d1, one rfl, non (by simp) hr' (Ne.symm d4), non (by simp) he (Ne.symm d5)⟩
      · exact ⟨non (by simp) hv d2, non (by simp) hh d4, one rfl, non (by simp) he (Ne.symm d6)⟩
      · exact ⟨non (by simp) hv d3, non (by simp) hh d5, non (by simp) hr' d6, one rfl⟩
end
section
variable {P : Program} {w : World} {K : PySem.W.Frag} {mg : Str → Option Value} {base : Heap}
theorem ok_Draft_take {f : Addr} {fd : FuncData} (F : FnP K "take" "Draft.take" s_Draft_take f fd) (T : Txt K mg) (N_Draft_take_inside : MtC P w K mg base 1 (He.ga K "Draft") "take_inside" ["self", "tokens"] (sp_Draft_take_inside K)) (N_Draft_take_outside : MtC P w K mg base 3 (He.ga K "Draft") "take_outside" ["self", "tokens"] (sp_Draft_take_outside K))  : FnOk P w K mg base (L2.CX P w) 4 f fd ["self", "tokens"] (sp_Draft_take K) := by
  refine F.ok sc_Draft_take (fun vs H Q E h => ?_) (fun cdv A outer s H vs Q E hr h => ?_)
  · obtain ⟨W, x, tp, n, v, h, r, e, hs, bl, sh, k, rest, rfl, _⟩ := h
    rfl
  · have nd := sc_Draft_take.nd
    have tk := takes_of (E := E) (X := (cxOf (L2.CX P w) P w K mg base ["self", "tokens", "depth", "fits"] "Draft.take" (defScope s_Draft_take) f cdv A outer s H E)) rfl rfl rfl rfl
    have po : PassesOwn (model P w) (cxOf (L2.CX P w) P w K mg base ["self", "tokens", "depth", "fits"] "Draft.take" (defScope s_Draft_take) f cdv A outer s H E).A (cxOf (L2.CX P w) P w K mg base ["self", "tokens", "depth", "fits"] "Draft.take" (defScope s_Draft_take) f cdv A outer s H E).env (cxOf (L2.CX P w) P w K mg base ["self", "tokens", "depth", "fits"] "Draft.take" (defScope s_Draft_take) f cdv A outer s H E).xe := passes_of (X := (cxOf (L2.CX P w) P w K mg base ["self", "tokens", "depth", "fits"] "Draft.take" (defScope s_Draft_take) f cdv A outer s H E)) rfl
    obtain ⟨W, x, tp, n, v, h, r, e, hs, bl, sh, k, rest, rfl, F0, htp, hw, hnW, ⟨hrl, hrs, hgd⟩, kF, kT⟩ := h
    obtain ⟨⟨dx, hx⟩, hn, hv, hh, hr', he, hhs, hbl, hsh, nd', nh⟩ := F0
    have cD := T.c_Draft
    have aD0 := T.a_Draft_names
    have aD1 := T.a_Draft_variables
    have aD2 := T.a_Draft_handles
    have aD3 := T.a_Draft_requests
    have aD4 := T.a_Draft_events
    have aD5 := T.a_Draft_handlers
    have aD6 := T.a_Draft_blocks
    have aD7 := T.a_Draft_shown
    have aD8 := T.a_Draft_asked
    
    refine ⟨_, (pss_cons (ps_if (PW.pt (pw_or (pt_cmpR (op_dEq K hr.units) (pe_callB (cl_len K) (by rfl) T.n_len bt_len (pa_cons (q_fld K (pv 0)) pa_nil)) (q_glob T.g_MOST_LINES) (nomark _)) (pw_or1 (pt_cmpR op_dGt (pe_callB (cl_len K) (by rfl) T.n_len bt_len (pa_cons (pv 1) pa_nil)) (q_glob T.g_MOST_TOKENS) (nomark _))))) (pss_one (ps_ret pe_bl)) pss_nil) (pss_cons (q_set 2 nd (pe_callB (cl_len K) (by rfl) T.n_len bt_len (pa_cons (q_fld K (pv 0)) pa_nil))) (pss_cons (ps_if (pt_cmpR (op_dIn K) (pe_ix (ix_dyn K) (pv 1) pe_int (fun _ _ => rfl)) (pe_tup (pa_cons pe_str (pa_cons pe_str pa_nil))) (by rfl)) (pss_one (q_aug 2 nd pe_int ip_sub)) pss_nil) (pss_cons (q_set 3 nd (pe_ifExp (q_truth K (q_fld K (pv 0))) (q_meth N_Draft_take_inside tk (hr.mono (by decide)) (pv 0) (pa_cons (pv 1) pa_nil)) (q_meth N_Draft_take_outside tk (hr.mono (by decide)) (pv 0) (pa_cons (pv 1) pa_nil)))) (pss_cons (ps_expr (q_bm K PySem.F.plainAttrs_list PySem.F.slot_list_append PySem.F.type_list_append m_append (q_fld K (pv 0)) (pa_cons (pe_op op_dAdd (pe_op op_dMul pe_str (pe_callB (cl_max rfl) (by rfl) T.n_max bt_max (pa_cons pe_int (pa_cons (pv 2) pa_nil)))) (q_bm K PySem.F.plainAttrs_str PySem.F.slot_str_join PySem.F.type_str_join (m_join K) pe_str (pa_cons (pv 1) pa_nil))) pa_nil))) (pss_one (ps_ret (pv 3)))))))), ?_⟩
    refine g_start (σ' := some _ :: some _ :: none :: none :: []) rfl ?_
    walk_at "go"
    refine g_iteF (by decide) ?_
    walk_at "go"
    have hlen : ((k.s :: rest).map V.str).length ≤ 6 := by rw [List.length_map, List.length_cons]; omega
    refine g_iteF (decide_eq_false (by omega)) ?_
    walk_at "go"
    refine g_ix_l (Or.inl (SqL.of htp)) (atI_of (i := 0) rfl) ?_
    walk_at "go"
    refine al fun q1 hq1 => ?_
    refine g_inLs (ns := ["else", "end"]) (Or.inr (SqT.of upd_same)) ?_
    walk_at "go"
    refine g_iteF (decide_eq_false k.not_end) ?_
    generalize hE1 : upd H q1 _ = H1
    obtain e1 : Ed [] H H1 := by subst hE1; exact Ed.new hq1
    clear hE1
    have F1 : Fd K H1 x n v h r e hs bl sh := Fd.ed ⟨⟨dx, hx⟩, hn, hv, hh, hr', he, hhs, hbl, hsh, nd', nh⟩ e1
    have htp1 := e1.get List.not_mem_nil htp
    clear hx hn hv hh hr' he hhs hbl hsh nd' nh dx htp
    have F1' := F1
    obtain ⟨⟨dx, hx⟩, hn, hv, hh, hr', he, hhs, hbl, hsh, nd', nh⟩ := F1'
    walk_at "go"
    refine tru_l (SqL.of hbl) ?_
    refine g_iteF rfl ?_
    walk_at "go"
    simp only [List.nodup_cons, List.mem_cons, List.not_mem_nil, or_false, not_or] at nd'
    obtain ⟨⟨d1, d2, d3, d4, d5⟩, ⟨d6, d7, d8, d9⟩, ⟨d10, d11, d12⟩, ⟨d13, d14⟩, d15, _⟩ := nd'
    have hlens : ∀ u ∈ k.s :: rest, u.length ≤ 100 := fun u hu => by
      rcases List.mem_cons.mp hu with rfl | hu
      · have := k.len; omega
      · exact hrs u hu
    have hjoin : ((k.s :: rest).map (·.length)).sum + (k.s :: rest).length * (" " : Str).length ≤ 16777216 := by
      have q1 := sum_len_le hlens
      have q2 : (k.s :: rest).length ≤ 6 := by rw [List.length_cons]; omega
      have q3 : (" " : Str).length = 1 := rfl
      have q4 : (k.s :: rest).length * 100 ≤ 600 := by omega
      rw [q3]
      omega
    have hadd : (Txt.mul "  " (max 0 (([] : List V).length : Int))).length + (Txt.join " " (k.s :: rest)).length ≤ 16777216 := by
      have q1 := join_len_le " " 100 (k.s :: rest) hlens
      have q2 : (k.s :: rest).length ≤ 6 := by rw [List.length_cons]; omega
      have q3 : (" " : Str).length = 1 := rfl
      rw [q3] at q1
      rw [join_txt]
      have q4 : (Txt.mul "  " (max 0 (([] : List V).length : Int))).length = 0 := by decide +kernel
      rw [q4]
      omega
    refine ⟨sh :: W, x, tp, n, v, h, r, e, hs, bl, sh, k, rest, rfl, F1, htp1, Wl.cons hsh (hw.ed e1), fun a ha => ?_, ⟨hrl, hrs, hgd⟩, fun H2 hno e2 => ?_, fun t H2 hr2 hnm hrw e2 => ?_⟩
    · simp only [List.mem_cons, not_or]
      refine ⟨?_, hnW a ha⟩
      simp only [List.mem_cons, List.not_mem_nil, or_false] at ha
      rcases ha with rfl | rfl | rfl | rfl <;> assumption
    · have htp2 := e2.get (List.not_mem_nil) htp1
      have hx2 := e2.get (List.not_mem_nil) hx
      have hsh2 := e2.get (List.not_mem_nil) hsh
      walk_at "go"
      refine g_mul_s (mulOk_small (by decide) (by decide) (by decide)) ?_
      walk_at "go"
      refine g_join (ys := k.s :: rest) (Or.inl (SqL.of htp2)) hjoin ?_
      walk_at "go"
      refine g_add_s (by rw [sizeLine_eq]; exact hadd) ?_
      walk_at "go"
      refine g_app hsh2 (by rw [sizeLine_eq]; exact Nat.lt_of_sub_eq_succ rfl) ?_
      generalize hE3 : upd H2 sh _ = H3
      obtain ⟨e3, g3⟩ : Ed [sh] H2 H3 ∧ H3 sh = some (.lst [.str _]) := by subst hE3; exact ⟨Ed.put, upd_same⟩
      clear hE3
      walk_at "go"
      exact kF H3 hno (((e1.tr e2 no0).weak no0).tr e3 fun a z => .inl z)
    · have n5 : ∀ {a : Addr} {o : HO}, H1 a = some o → o ≠ .dK [] → o ≠ .lst [] → a ∉ [n, v, h, r, e] := fun q1 q2 q3 => not_in5 hn hv hh hr' he q1 q2 q3
      have nsh : sh ∉ [n, v, h, r, e] := by
        simp only [List.mem_cons, List.not_mem_nil, or_false, not_or]
        exact ⟨(fun z => by rw [z, hn] at hsh; cases hsh), Ne.symm d5, Ne.symm d9, Ne.symm d12, Ne.symm d14⟩
      have nbl : bl ∉ [n, v, h, r, e] := by
        simp only [List.mem_cons, List.not_mem_nil, or_false, not_or]
        exact ⟨(fun z => by rw [z, hn] at hbl; cases hbl), Ne.symm d4, Ne.symm d8, Ne.symm d11, Ne.symm d13⟩
      have nhs : hs ∉ [n, v, h, r, e] := by
        simp only [List.mem_cons, List.not_mem_nil, or_false, not_or]
        exact ⟨nh, (fun z => by rw [z, hv] at hhs; cases hhs), (fun z => by rw [z, hh] at hhs; cases hhs), (fun z => by rw [z, hr'] at hhs; cases hhs), (fun z => by rw [z, he] at hhs; cases hhs)⟩
      have htp2 := e2.get (n5 htp1 (fun z => nomatch z) (fun z => nomatch z)) htp1
      have hx2 := e2.get (n5 hx (fun z => nomatch z) (fun z => nomatch z)) hx
      have hsh2 := e2.get (nsh) hsh
      walk_at "go"
      refine g_mul_s (mulOk_small (by decide) (by decide) (by decide)) ?_
      walk_at "go"
      refine g_join (ys := k.s :: rest) (Or.inl (SqL.of htp2)) hjoin ?_
      walk_at "go"
      refine g_add_s (by rw [sizeLine_eq]; exact hadd) ?_
      walk_at "go"
      refine g_app hsh2 (by rw [sizeLine_eq]; exact Nat.lt_of_sub_eq_succ rfl) ?_
      generalize hE3 : upd H2 sh _ = H3
      obtain ⟨e3, g3⟩ : Ed [sh] H2 H3 ∧ H3 sh = some (.lst [.str _]) := by subst hE3; exact ⟨Ed.put, upd_same⟩
      clear hE3
      walk_at "go"
      have kp : ∀ {a : Addr} {o : HO}, H2 a = some o → a ≠ sh → H3 a = some o := fun q ne => e3.get (fun z => ne (List.mem_singleton.mp z)) q
      have s1 : ∀ a ∈ [sh], a ∈ sh :: W := sub1 (List.mem_cons_self ..)
      have s2 : ∀ a ∈ W, a ∈ sh :: W := fun a z => List.mem_cons_of_mem _ z
      refine kT t H3 hr2 hnm ⟨⟨dx, kp hx2 (fun z => by rw [z, hsh2] at hx2; cases hx2)⟩, ⟨(hrw.rv.ed e3 s1).weak s2, (hrw.rh.ed e3 s1).weak s2, (hrw.rr.ed e3 s1).weak s2, (hrw.re.ed e3 s1).weak s2⟩, kp (e2.get nhs hhs) (fun z => by rw [z, hsh] at hhs; cases hhs), kp (e2.get nbl hbl) d15, ⟨_, g3⟩⟩ ?_
      refine ((((e1.weak no0).tr e2 fun a z => .inl z).weak fun a z => ?_) : Ed [n, v, h, r, e, sh] H H2).tr e3 fun a z => .inl (by rw [List.mem_singleton.mp z]; simp)
      simp only [List.mem_cons, List.not_mem_nil, or_false] at z ⊢
      rcases z with z | z | z | z | z <;> simp [z]
end
section
variable {P : Program} {w : World} {K : PySem.W.Frag} {mg : Str → Option Value} {base : Heap}
theorem ok_Program___init__ {f : Addr} {fd : FuncData} (F : FnP K "__init__" "Program.__init__" s_Program___init__ f fd) (T : Txt K mg) (M_Draft : MkC P w K mg base 1 "Draft" (He.ga K "Draft") ["self"] (sp_Draft___init__ K)) (N_Draft_take : MtC P w K mg base 4 (He.ga K "Draft") "take" ["self", "tokens"] (sp_Draft_take K)) (X_BadProgram : XC P w K mg base 1 "BadProgram" "at" (He.ga K "BadProgram"))  : FnOk P w K mg base (L2.CX P w) 5 f fd ["self", "lines"] (sp_Program___init__ K) := by
  refine F.ok sc_Program___init__ (fun vs H Q E h => ?_) (fun cdv A outer s H vs Q E hr h => ?_)
  · obtain ⟨W, x, dx, lp, line, k, rest, rfl, _⟩ := h
    rfl
  · have nd := sc_Program___init__.nd
    have tk := takes_of (E := E) (X := (cxOf (L2.CX P w) P w K mg base ["self", "lines", "draft", "at", "line", "tokens"] "Program.__init__" (defScope s_Program___init__) f cdv A outer s H E)) rfl rfl rfl rfl
    have po : PassesOwn (model P w) (cxOf (L2.CX P w) P w K mg base ["self", "lines", "draft", "at", "line", "tokens"] "Program.__init__" (defScope s_Program___init__) f cdv A outer s H E).A (cxOf (L2.CX P w) P w K mg base ["self", "lines", "draft", "at", "line", "tokens"] "Program.__init__" (defScope s_Program___init__) f cdv A outer s H E).env (cxOf (L2.CX P w) P w K mg base ["self", "lines", "draft", "at", "line", "tokens"] "Program.__init__" (defScope s_Program___init__) f cdv A outer s H E).xe := passes_of (X := (cxOf (L2.CX P w) P w K mg base ["self", "lines", "draft", "at", "line", "tokens"] "Program.__init__" (defScope s_Program___init__) f cdv A outer s H E)) rfl
    obtain ⟨W, x, dx, lp, line, k, rest, rfl, hx, hlp, hw, hxW, hll, hwd, hgt, kE, kT⟩ := h
    have cD := T.c_Draft
    have aD0 := T.a_Draft_names
    have aD1 := T.a_Draft_variables
    have aD2 := T.a_Draft_handles
    have aD3 := T.a_Draft_requests
    have aD4 := T.a_Draft_events
    have aD5 := T.a_Draft_handlers
    have aD6 := T.a_Draft_blocks
    have aD7 := T.a_Draft_shown
    have aD8 := T.a_Draft_asked
    have cP := T.c_Program
    have aP0 := T.a_Program_variables
    have aP1 := T.a_Program_handles
    have aP2 := T.a_Program_requests
    have aP3 := T.a_Program_events
    have aP4 := T.a_Program_handlers
    have aP5 := T.a_Program_shown
    
    refine ⟨_, (pss_cons (q_set 2 nd (q_make0 M_Draft tk (hr.mono (by decide)))) (pss_cons (ps_for po rfl (q_enum K T.n_enumerate (pa_cons (pv 1) pa_nil)) (q_gtup K 2 (pgs_cons (q_name 3 nd) (pgs_cons (q_name 4 nd) pgs_nil))) (pss_cons (q_set 5 nd (q_bm0 K PySem.F.plainAttrs_str PySem.F.slot_str_split PySem.F.type_str_split m_words (pv 4))) (pss_one (ps_if (PW.pt (pw_and (q_truth K (pv 5)) (pw_and1 (pt_not (q_truth K (q_meth N_Draft_take tk (hr.mono (by decide)) (pv 2) (pa_cons (pv 5) pa_nil))))))) (pss_one (q_raise X_BadProgram tk (hr.mono (by decide)) (pa_cons (pv 3) pa_nil))) pss_nil)))) (pss_cons (ps_if (q_truth K (q_fld K (pv 2))) (pss_one (q_raise X_BadProgram tk (hr.mono (by decide)) (pa_cons (pe_callB (cl_len K) (by rfl) T.n_len bt_len (pa_cons (pv 1) pa_nil)) pa_nil))) pss_nil) (pss_cons (q_sfld K (pv 0) (pe_callTy (cl_tuple K) (by rfl) T.n_tuple bt_tuple (pa_cons (q_fld K (pv 2)) pa_nil))) (pss_cons (q_sfld K (pv 0) (pe_callTy (cl_tuple K) (by rfl) T.n_tuple bt_tuple (pa_cons (q_fld K (pv 2)) pa_nil))) (pss_cons (q_sfld K (pv 0) (pe_callTy (cl_tuple K) (by rfl) T.n_tuple bt_tuple (pa_cons (q_fld K (pv 2)) pa_nil))) (pss_cons (q_sfld K (pv 0) (pe_callTy (cl_tuple K) (by rfl) T.n_tuple bt_tuple (pa_cons (q_fld K (pv 2)) pa_nil))) (pss_cons (q_sfld K (pv 0) (pe_callTy cl_dict (by rfl) T.n_dict bt_dict (pa_cons (q_fld K (pv 2)) pa_nil))) (pss_one (q_sfld K (pv 0) (pe_callTy (cl_tuple K) (by rfl) T.n_tuple bt_tuple (pa_cons (q_fld K (pv 2)) pa_nil)))))))))))), ?_⟩
    refine g_start (σ' := some _ :: some _ :: none :: none :: none :: none :: []) rfl ?_
    walk_at "go"
    intro y dy hy hdy hny
    generalize hH1 : upd (upd H dy _) y _ = H1
    obtain ⟨e1, hy0⟩ := new_i hH1 hy hdy hny
    clear hH1
    have hx1 := e1.get List.not_mem_nil hx
    have hlp1 := e1.get List.not_mem_nil hlp
    refine ⟨y, dy, rfl, hy0, fun n v h r e hs bl sh H2 F2 hfr e2 => ⟨rfl, ?_⟩⟩
    have nyx : x ≠ y := ne_of_none hx hy
    have nyl : lp ≠ y := ne_of_none hlp hy
    have hx2 := e2.get (fun z => nyx (List.mem_singleton.mp z)) hx1
    have hlp2 := e2.get (fun z => nyl (List.mem_singleton.mp z)) hlp1
    have e02 : Ed [] H H2 := ⟨fun a o _ ea => e2.get (fun z => ne_of_none ea hy (List.mem_singleton.mp z)) (e1.get List.not_mem_nil ea), fun a z => e2.2 a (e1.2 a z)⟩
    walk_at "go"
    have n6 : ∀ {a : Addr} {o : HO}, H1 a = some o → a ∉ [n, v, h, r, e, sh] := fun {a o} ha hm => by
      have q : H1 a = none := hfr a (by
        simp only [List.mem_cons, List.not_mem_nil, or_false] at hm ⊢
        rcases hm with z | z | z | z | z | z <;> simp [z])
      rw [q] at ha
      cases ha
    have w2 : Wl (x :: W) H2 := Wl.cons hx2 (hw.ed e02)
    have fr2 : ∀ a ∈ [v, h, r, e], a ∉ x :: W := fun a ha hm => by
      have q : H1 a = none := hfr a (by
        simp only [List.mem_cons, List.not_mem_nil, or_false] at ha ⊢
        rcases ha with z | z | z | z <;> simp [z])
      rcases List.mem_cons.mp hm with rfl | hm
      · rw [q] at hx1; cases hx1
      · exact (hw.ed e1) a hm q
    refine lp_it (walk_enum (xs := [.str line])) (fun i σ' H' => (i = 0 ∧ σ' = [some (.ref x), some (.ref lp), some (.ref y), none, none, none] ∧ H' = H2) ∨ (i = 1 ∧ ∃ (u1 u2 u3 : Option V) (t : Str), σ' = [some (.ref x), some (.ref lp), some (.ref y), u1, u2, u3] ∧ rest = t :: k.tail ∧ isNm t = true ∧ Gd K (x :: W) H' y n v h r e hs bl sh t k ∧ Ed [n, v, h, r, e, sh] H2 H')) (.inl ⟨rfl, rfl, rfl⟩) ?_ ?_ ?_
    · rintro i σ' H' _ (⟨_, _, rfl⟩ | ⟨_, _, _, _, t, _, _, _, _, e3⟩)
      · exact SqL.of hlp2
      · exact SqL.of (e3.get (n6 hlp1) hlp2)
    · rintro i z σ' H' H3 hi (⟨rfl, rfl, rfl⟩ | ⟨rfl, _⟩) ⟨t, x1, y1, rfl, ht, rfl, q1, q2⟩
      · cases q1
        cases (show some (V.str line) = some y1 from q2)
        generalize hE3 : upd H' t _ = H3
        obtain ⟨e3, g3⟩ : Ed [] H' H3 ∧ H3 t = some (.tup [.int ((0 : Nat) : Int), .str line]) := by subst hE3; exact ⟨Ed.new ht, upd_same⟩
        clear hE3
        have F3 := F2.ed e3
        walk_at "go"
        rw [hwd]
        intro tp htp
        generalize hE4 : upd H3 tp _ = H4
        obtain ⟨e4, g4⟩ : Ed [] H3 H4 ∧ H4 tp = some (.lst ((k.s :: rest).map V.str)) := by subst hE4; exact ⟨Ed.new htp, upd_same⟩
        clear hE4
        have F4 := F3.ed e4
        have e24 := e3.tr e4 no0
        obtain ⟨dy4, hy4⟩ := F4.px
        walk_at "go"
        refine tru_l (SqL.of g4) ?_
        refine g_iteT rfl ?_
        walk_at "go"
        refine ⟨x :: W, y, tp, n, v, h, r, e, hs, bl, sh, k, rest, rfl, F4, g4, w2.ed e24, fr2, hgt, fun H5 hno e5 => ?_, fun t' H5 hr5 hnm gd5 e5 => ?_⟩
        · walk_at "go"
          intro d hd
          refine kE d _ hno ?_ upd_same
          exact ((e02.tr e24 no0).tr e5 fun a z => .inr (e1.free (hfr a (by rw [List.mem_singleton.mp z]; simp)))).tr (Ed.new hd) no0
        · walk_at "go"
          exact .inr ⟨rfl, _, _, _, t', rfl, hr5, hnm, gd5, (e24.weak no0).tr e5 fun a z => .inl z⟩
      · exact absurd hi (Nat.lt_irrefl 1)
    · rintro σ' H3 (⟨z, _⟩ | ⟨_, u1, u2, u3, t, rfl, hrt, hnm, gd, e3⟩)
      · exact absurd z (Nat.one_ne_zero)
      have hx0 := e3.get (n6 hx1) hx2
      have e03 : Ed [] H H3 := e02.tr e3 fun a z => .inr (e1.free (hfr a (by
        simp only [List.mem_cons, List.not_mem_nil, or_false] at z ⊢
        rcases z with z | z | z | z | z | z <;> simp [z])))
      have wx0 := w2.ed e3
      obtain ⟨⟨dy3, hy0⟩, ⟨rv, rh, rr, re⟩, hhs0, hbl0, ⟨shs, hsh0⟩⟩ := gd
      have nof : ∀ {a : Addr}, a ∈ [n, v, h, r, e, hs, bl, sh] → a ∉ [x] := fun {a} ha hm => by
        have q := hfr a ha
        rw [List.mem_singleton.mp hm, hx1] at q
        cases q
      have ny' : y ∉ [x] := fun hm => nyx (List.mem_singleton.mp hm).symm
      have nhs' : hs ∉ [x] := nof (by simp)
      have nsh' : sh ∉ [x] := nof (by simp)
      have sx : ∀ a ∈ [x], a ∈ x :: W := sub1 (List.mem_cons_self ..)
      generalize H3 = G0 at *
      walk_at "go"
      refine tru_l (SqL.of hbl0) ?_
      refine g_iteF rfl ?_
      walk_at "go"
      obtain ⟨xs_v, _, hl_v, df_v⟩ := rv.cells
      walk_at "go"
      refine g_tupleL hl_v fun tv htv => ?_
      walk_at "go"
      generalize hF1 : upd (upd G0 tv _) x _ = G1
      have dv := new_tp hF1 htv df_v wx0
      obtain ⟨f1, hx1, _, _⟩ := dstep hF1 htv (al_of hx0)
      clear hF1
      have wx1 := wx0.ed f1
      have rv := rv.ed f1 sx
      have rh := rh.ed f1 sx
      have rr := rr.ed f1 sx
      have re := re.ed f1 sx
      have hy1 := f1.get ny' hy0
      have hhs1 := f1.get nhs' hhs0
      have hsh1 := f1.get nsh' hsh0
      obtain ⟨xs_h, _, hl_h, df_h⟩ := rh.cells
      walk_at "go"
      refine g_tupleL hl_h fun th hth => ?_
      walk_at "go"
      generalize hF2 : upd (upd G1 th _) x _ = G2
      have dh := new_tp hF2 hth df_h wx1
      obtain ⟨f2, hx2, _, _⟩ := dstep hF2 hth (al_of hx1)
      clear hF2
      have wx2 := wx1.ed f2
      have rv := rv.ed f2 sx
      have rh := rh.ed f2 sx
      have rr := rr.ed f2 sx
      have re := re.ed f2 sx
      have dv := dv.ed f2 sx
      have hy2 := f2.get ny' hy1
      have hhs2 := f2.get nhs' hhs1
      have hsh2 := f2.get nsh' hsh1
      obtain ⟨xs_r, _, hl_r, df_r⟩ := rr.cells
      walk_at "go"
      refine g_tupleL hl_r fun tr htr => ?_
      walk_at "go"
      generalize hF3 : upd (upd G2 tr _) x _ = G3
      have dr := new_tp hF3 htr df_r wx2
      obtain ⟨f3, hx3, _, _⟩ := dstep hF3 htr (al_of hx2)
      clear hF3
      have wx3 := wx2.ed f3
      have rv := rv.ed f3 sx
      have rh := rh.ed f3 sx
      have rr := rr.ed f3 sx
      have re := re.ed f3 sx
      have dv := dv.ed f3 sx
      have dh := dh.ed f3 sx
      have hy3 := f3.get ny' hy2
      have hhs3 := f3.get nhs' hhs2
      have hsh3 := f3.get nsh' hsh2
      obtain ⟨xs_e, _, hl_e, df_e⟩ := re.cells
      walk_at "go"
      refine g_tupleL hl_e fun te hte => ?_
      walk_at "go"
      generalize hF4 : upd (upd G3 te _) x _ = G4
      have de := new_tp hF4 hte df_e wx3
      obtain ⟨f4, hx4, _, _⟩ := dstep hF4 hte (al_of hx3)
      clear hF4
      have wx4 := wx3.ed f4
      have rv := rv.ed f4 sx
      have rh := rh.ed f4 sx
      have rr := rr.ed f4 sx
      have re := re.ed f4 sx
      have dv := dv.ed f4 sx
      have dh := dh.ed f4 sx
      have dr := dr.ed f4 sx
      have hy4 := f4.get ny' hy3
      have hhs4 := f4.get nhs' hhs3
      have hsh4 := f4.get nsh' hsh3
      walk_at "go"
      refine g_dictD hhs4 fun q5 hq5 => ?_
      walk_at "go"
      generalize hF5 : upd (upd G4 q5 _) x _ = G5
      obtain ⟨f5, hx5, _, _⟩ := dstep hF5 hq5 (al_of hx4)
      clear hF5
      have hsh5 := f5.get nsh' hsh4
      have hy5 := f5.get ny' hy4
      walk_at "go"
      refine g_tupleL hsh5 fun q6 hq6 => ?_
      walk_at "go"
      generalize hF6 : upd (upd G5 q6 _) x _ = G6
      obtain ⟨f6, hx6, _, _⟩ := dstep hF6 hq6 (al_of hx5)
      clear hF6
      have s2 : ∀ a ∈ W, a ∈ x :: W := fun a z => List.mem_cons_of_mem _ z
      have fin : Ed [x] H G6 := ((((((e03.weak no0).tr f1 (fun a z => .inl z)).tr f2 (fun a z => .inl z)).tr f3 (fun a z => .inl z)).tr f4 (fun a z => .inl z)).tr f5 (fun a z => .inl z)).tr f6 (fun a z => .inl z)
      refine kT t G6 hrt hnm ⟨⟨dx, tv, th, tr, te, q5, q6, hx6, ?_, ?_, ?_, ?_⟩⟩ fin
      · exact ((dv.ed f5 sx).ed f6 sx).weak s2
      · exact ((dh.ed f5 sx).ed f6 sx).weak s2
      · exact ((dr.ed f5 sx).ed f6 sx).weak s2
      · exact ((de.ed f5 sx).ed f6 sx).weak s2
end
section
variable {P : Program} {w : World} {K : PySem.W.Frag} {mg : Str → Option Value} {base : Heap}
theorem ok_Program_read {f : Addr} {fd : FuncData} (F : FnP K "read" "Program.read" s_Program_read f fd) (T : Txt K mg) (M_Program : MkC P w K mg base 5 "Program" (He.ga K "Program") ["self", "lines"] (sp_Program___init__ K))  : FnOk P w K mg base (L2.CX P w) 7 f fd ["cls", "text"] (sp_Program_read K) := by
  refine F.ok sc_Program_read (fun vs H Q E h => ?_) (fun cdv A outer s H vs Q E hr h => ?_)
  · obtain ⟨W, line, k, rest, rfl, _⟩ := h
    rfl
  · have nd := sc_Program_read.nd
    have tk := takes_of (E := E) (X := (cxOf (L2.CX P w) P w K mg base ["cls", "text"] "Program.read" (defScope s_Program_read) f cdv A outer s H E)) rfl rfl rfl rfl
    have po : PassesOwn (model P w) (cxOf (L2.CX P w) P w K mg base ["cls", "text"] "Program.read" (defScope s_Program_read) f cdv A outer s H E).A (cxOf (L2.CX P w) P w K mg base ["cls", "text"] "Program.read" (defScope s_Program_read) f cdv A outer s H E).env (cxOf (L2.CX P w) P w K mg base ["cls", "text"] "Program.read" (defScope s_Program_read) f cdv A outer s H E).xe := passes_of (X := (cxOf (L2.CX P w) P w K mg base ["cls", "text"] "Program.read" (defScope s_Program_read) f cdv A outer s H E)) rfl
    obtain ⟨W, line, k, rest, rfl, hw, hll, hnl, hwd, hgt, kE, kT⟩ := h
    refine ⟨_, (pss_one (ps_ret (q_makeL 0 M_Program tk (hr.mono (by decide)) (pa_cons (q_bm K PySem.F.plainAttrs_str PySem.F.slot_str_split PySem.F.type_str_split m_split (pv 1) (pa_cons pe_str pa_nil)) pa_nil)))), ?_⟩
    refine g_start (σ' := some _ :: some _ :: []) rfl ?_
    walk_at "go"
    rw [split_line hnl]
    intro lp hlp
    generalize hE1 : upd H lp _ = H1
    obtain ⟨e1, g1⟩ : Ed [] H H1 ∧ H1 lp = some (.lst [.str line]) := by subst hE1; exact ⟨Ed.new hlp, upd_same⟩
    clear hE1
    walk_at "go"
    intro x dx hx hdx hnx
    generalize hH2 : upd (upd H1 dx _) x _ = H2
    obtain ⟨e2, hx0⟩ := new_i hH2 hx hdx hnx
    clear hH2
    have w2 := (hw.ed e1).ed e2
    refine ⟨W, x, dx, lp, line, k, rest, rfl, hx0, e2.get List.not_mem_nil g1, w2, (hw.ed e1).not hx, hll, hwd, hgt, fun d H3 hno e3 hd => ?_, fun t H3 hr hnm pg e3 => ⟨rfl, ?_⟩⟩
    · exact kE d H3 hno ((e1.tr e2 no0).tr e3 no0) hd
    · refine kT x t H3 hr hnm pg ?_
      exact (e1.tr e2 no0).tr e3 fun a z => .inr (by rw [List.mem_singleton.mp z]; exact e1.free hx)
end
section
variable {P : Program} {w : World} {K : PySem.W.Frag} {mg : Str → Option Value} {base : Heap}
theorem ok_law_told {f : Addr} {fd : FuncData} (F : FnP K "_law_told" "_law_told" s_law_told f fd) (T : Txt K mg) (Y_Program_read : CmC P w K mg base 7 (He.ga K "Program") "read" ["cls", "text"] (sp_Program_read K))  : FnOk P w K mg base (L2.CX P w) 8 f fd ["_law_line", "_law_kind"] (sp_law_told K) := by
  refine F.ok sc_law_told (fun vs H Q E h => ?_) (fun cdv A outer s H vs Q E hr h => ?_)
  · exact h.1
  · have nd := sc_law_told.nd
    have tk := takes_of (E := E) (X := (cxOf (L2.CX P w) P w K mg base ["_law_line", "_law_kind", "_law_program", "e", "_law_rows", "_law_row"] "_law_told" (defScope s_law_told) f cdv A outer s H E)) rfl rfl rfl rfl
    have po : PassesOwn (model P w) (cxOf (L2.CX P w) P w K mg base ["_law_line", "_law_kind", "_law_program", "e", "_law_rows", "_law_row"] "_law_told" (defScope s_law_told) f cdv A outer s H E).A (cxOf (L2.CX P w) P w K mg base ["_law_line", "_law_kind", "_law_program", "e", "_law_rows", "_law_row"] "_law_told" (defScope s_law_told) f cdv A outer s H E).env (cxOf (L2.CX P w) P w K mg base ["_law_line", "_law_kind", "_law_program", "e", "_law_rows", "_law_row"] "_law_told" (defScope s_law_told) f cdv A outer s H E).xe := passes_of (X := (cxOf (L2.CX P w) P w K mg base ["_law_line", "_law_kind", "_law_program", "e", "_law_rows", "_law_row"] "_law_told" (defScope s_law_told) f cdv A outer s H E)) rfl
    obtain ⟨W, line, k, rest, rfl, hw, hll, hnl, hwd, hgt, kF, kT⟩ := told_of h
    have cP := T.c_Program
    have aP0 := T.a_Program_variables
    have aP1 := T.a_Program_handles
    have aP2 := T.a_Program_requests
    have aP3 := T.a_Program_events
    have aP4 := T.a_Program_handlers
    have aP5 := T.a_Program_shown
    
    refine ⟨_, (pss_cons (ps_try_as (i := 3) rfl rfl nd rfl rfl ⟨rfl, by decide, Or.inl T.m_BadProgram⟩ tk (fun W1 pn1 xe1 tk1 po1 => (pss_one (q_set 2 nd (q_cm Y_Program_read tk1 (hr.mono (by decide)) (q_glob T.g_Program) (pa_cons (pv 0) pa_nil))))) (fun a1 oe1 cls1 d1 pn1 hz1 hf1 => (pss_one (ps_ret (pe_xfD K hz1 hf1 (pv 3)))))) (pss_cons (q_set 4 nd (pe_disp (pps_cons pe_str (q_fld K (pv 2)) (pps_cons pe_str (q_fld K (pv 2)) (pps_cons pe_str (q_fld K (pv 2)) pps_nil))) rfl rfl (by simp) (by decide))) (pss_one (ps_ret (pe_ifExp (pt_cmpR (op_dEq K hr.units) (pv 1) pe_str (nomark _)) (pe_callTy (cl_list K) (by rfl) T.n_list bt_list (pa_cons (q_fld K (pv 2)) pa_nil)) (pe_lc (own := [("_law_row", 5)]) (tt := tYes) rfl nd (q_tupI K (pe_dget (units1 hr.units) (pv 4) (pv 1) (fun _ _ => rfl))) (blkOk_by (own := [("_law_row", 5)]) (N := ["_law_line", "_law_kind", "_law_program", "e", "_law_rows", "_law_row"]) (sc := defScope s_law_told) (by decide +kernel)) (fun _ _ _ _ _ => (q_name 5 nd)) (fun _ _ _ _ _ => pts_nil) (fun _ _ _ _ _ => (pe_ix (ix_dyn K) (pv 5) pe_int (fun _ _ => rfl))))))))), ?_⟩
    refine g_start (σ' := some _ :: some _ :: none :: none :: none :: none :: []) rfl ?_
    walk_at "go"
    refine ⟨rfl, ?_⟩
    walk_at "go"
    refine ⟨W, line, k, rest, rfl, hw, hll, hnl, hwd, hgt, fun d H1 hno e1 hd => ?_, fun x t H1 hr hnm pg e1 => ?_⟩
    · refine ⟨true, T.x_exm, fun _ a1 ha1 => ?_, fun z => by cases z⟩
      walk_at "go"
      refine ⟨_, rfl, rfl, He.ga K "BadProgram", d, _, _, rfl, T.x_f, T.x_no, rfl, hd, rfl, ?_⟩
      exact kF H1 hno e1
    · obtain ⟨⟨dx, v, h, r, e, hs, sh, hx, dv, dh, dr, de⟩⟩ := pg
      have w1 := hw.ed e1
      walk_at "go"
      intro p H2 hp e2 g2
      have hx2 := e2.get List.not_mem_nil hx
      walk_at "go"
      refine ⟨g2, (rwK v r e), rfl, Nat.le_of_ble_eq_true rfl, ?_⟩
      generalize hH3 : upd H2 p _ = H3
      obtain ⟨e3, dp⟩ := new_d (W := W) hH3 (by walk_at "wl") hp
      clear hH3
      have e13 : Ed [p] H1 H3 := (e2.weak no0).tr e3 fun a z => .inl z
      have w3 := w1.ed e13
      have hx3 := e13.get (fun z => ne_of_none hx hp (List.mem_singleton.mp z)) hx
      have kp : ∀ {u : V} {d : PyData}, Df W H1 u d → Df W H3 u d := fun hu => by
        have := (hu.more hp).ed e13 (sub1 (List.mem_cons_self ..))
        exact this.weak fun a z => List.mem_cons_of_mem _ z
      walk_at "go"
      cases k
      · refine g_iteF (by decide +kernel) ?_
        walk_at "go"
        show ∃ a, V.ref v = V.ref a ∧ _
        have dd : Df W H3 (.ref v) (.tuple [.tuple [.str t, .int 1]]) := kp dv
        walk_at "go"
        intro D hD
        refine lc_dt (by walk_at "wipe") (U := []) (W := W) dd (by rw [sizeLine_eq]; exact Nat.le_of_ble_eq_true rfl) hD w3 no0 (fun i acc => acc = [PyData.str t].take i) (fun _ => True) (fun _ _ _ _ => trivial) trivial rfl ?_ ?_
        · rintro i z d acc H4 R N hd hacc _ e4 w4 hz yes no
          obtain ⟨rfl, rfl⟩ : i = 0 ∧ d = .tuple [.str t, .int 1] := by
            cases i with
            | zero => exact ⟨rfl, by simpa using hd.symm⟩
            | succ j => simp at hd
          obtain ⟨q, rfl⟩ := Df.isRefT hz
          walk_at "go"
          refine ⟨rfl, ?_⟩
          walk_at "go"
          refine g_ixt hz rfl fun u hu => ?_
          exact yes _ _ (.str t) Ed.refl hu trivial (by rw [hacc]; rfl)
        · rintro acc H4 rfl _ e4 dD _
          exact kT t D H4 hr hnm ((e1.tr e13 (fun a z => .inr (by rw [List.mem_singleton.mp z]; exact e1.free hp))).free hD) dD ((e1.tr e13 (fun a z => .inr (by rw [List.mem_singleton.mp z]; exact e1.free hp))).tr e4 no0)
      · refine g_iteT (by decide +kernel) ?_
        walk_at "go"
        obtain ⟨xs, _, hh, rh⟩ := (kp dh).cellsT
        refine g_listL (Or.inr (SqT.of hh)) fun l hl => ?_
        refine kT t l _ hr hnm ((e1.tr e13 (fun a z => .inr (by rw [List.mem_singleton.mp z]; exact e1.free hp))).free hl) (.lst (w3.not hl) upd_same (rh.ed (Ed.new hl) no0)) ((e1.tr e13 (fun a z => .inr (by rw [List.mem_singleton.mp z]; exact e1.free hp))).tr (Ed.new hl) no0)
      · refine g_iteF (by decide +kernel) ?_
        walk_at "go"
        show ∃ a, V.ref r = V.ref a ∧ _
        have dd : Df W H3 (.ref r) (.tuple [.tuple [.str t, .int 0, .str "replace"]]) := kp dr
        walk_at "go"
        intro D hD
        refine lc_dt (by walk_at "wipe") (U := []) (W := W) dd (by rw [sizeLine_eq]; exact Nat.le_of_ble_eq_true rfl) hD w3 no0 (fun i acc => acc = [PyData.str t].take i) (fun _ => True) (fun _ _ _ _ => trivial) trivial rfl ?_ ?_
        · rintro i z d acc H4 R N hd hacc _ e4 w4 hz yes no
          obtain ⟨rfl, rfl⟩ : i = 0 ∧ d = .tuple [.str t, .int 0, .str "replace"] := by
            cases i with
            | zero => exact ⟨rfl, by simpa using hd.symm⟩
            | succ j => simp at hd
          obtain ⟨q, rfl⟩ := Df.isRefT hz
          walk_at "go"
          refine ⟨rfl, ?_⟩
          walk_at "go"
          refine g_ixt hz rfl fun u hu => ?_
          exact yes _ _ (.str t) Ed.refl hu trivial (by rw [hacc]; rfl)
        · rintro acc H4 rfl _ e4 dD _
          exact kT t D H4 hr hnm ((e1.tr e13 (fun a z => .inr (by rw [List.mem_singleton.mp z]; exact e1.free hp))).free hD) dD ((e1.tr e13 (fun a z => .inr (by rw [List.mem_singleton.mp z]; exact e1.free hp))).tr e4 no0)
      · refine g_iteF (by decide +kernel) ?_
        walk_at "go"
        show ∃ a, V.ref e = V.ref a ∧ _
        have dd : Df W H3 (.ref e) (.tuple [.tuple [.str t, .int 3]]) := kp de
        walk_at "go"
        intro D hD
        refine lc_dt (by walk_at "wipe") (U := []) (W := W) dd (by rw [sizeLine_eq]; exact Nat.le_of_ble_eq_true rfl) hD w3 no0 (fun i acc => acc = [PyData.str t].take i) (fun _ => True) (fun _ _ _ _ => trivial) trivial rfl ?_ ?_
        · rintro i z d acc H4 R N hd hacc _ e4 w4 hz yes no
          obtain ⟨rfl, rfl⟩ : i = 0 ∧ d = .tuple [.str t, .int 3] := by
            cases i with
            | zero => exact ⟨rfl, by simpa using hd.symm⟩
            | succ j => simp at hd
          obtain ⟨q, rfl⟩ := Df.isRefT hz
          walk_at "go"
          refine ⟨rfl, ?_⟩
          walk_at "go"
          refine g_ixt hz rfl fun u hu => ?_
          exact yes _ _ (.str t) Ed.refl hu trivial (by rw [hacc]; rfl)
        · rintro acc H4 rfl _ e4 dD _
          exact kT t D H4 hr hnm ((e1.tr e13 (fun a z => .inr (by rw [List.mem_singleton.mp z]; exact e1.free hp))).free hD) dD ((e1.tr e13 (fun a z => .inr (by rw [List.mem_singleton.mp z]; exact e1.free hp))).tr e4 no0)
end
section
open NQ
variable {P : Program} {w : World} {K : PySem.W.Frag} {mg : Str → Option Value} {base : Heap}
theorem ok_law_token {f : Addr} {fd : FuncData} (F : FnP K "_law_token" "_law_token" s_law_token f fd) (T : Txt K mg) (C__law_of : Cal P w K mg base 2 "_law_of" ["_law_bag", "_law_some"] (sp_law_of K)) : FnOk P w K mg base (L2.CX P w) 3 f fd ["_law_bag"] (sp_law_token K) := by
  refine F.ok sc_law_token (fun vs H Q E h => h.1) (fun cdv A outer s H vs Q E hr h => ?_)
  have nd := sc_law_token.nd
  have tk := takes_of (E := E) (X := (cxOf (L2.CX P w) P w K mg base ["_law_bag", "_law_words", "_law_word", "_law_size", "_law_letters", "_law_signs", "_law_near", "_law_some", "_law_turn", "_law_odd"] "_law_token" (defScope s_law_token) f cdv A outer s H E)) rfl rfl rfl rfl
  have po : PassesOwn (model P w) (cxOf (L2.CX P w) P w K mg base ["_law_bag", "_law_words", "_law_word", "_law_size", "_law_letters", "_law_signs", "_law_near", "_law_some", "_law_turn", "_law_odd"] "_law_token" (defScope s_law_token) f cdv A outer s H E).A (cxOf (L2.CX P w) P w K mg base ["_law_bag", "_law_words", "_law_word", "_law_size", "_law_letters", "_law_signs", "_law_near", "_law_some", "_law_turn", "_law_odd"] "_law_token" (defScope s_law_token) f cdv A outer s H E).env (cxOf (L2.CX P w) P w K mg base ["_law_bag", "_law_words", "_law_word", "_law_size", "_law_letters", "_law_signs", "_law_near", "_law_some", "_law_turn", "_law_odd"] "_law_token" (defScope s_law_token) f cdv A outer s H E).xe := passes_of (X := (cxOf (L2.CX P w) P w K mg base ["_law_bag", "_law_words", "_law_word", "_law_size", "_law_letters", "_law_signs", "_law_near", "_law_some", "_law_turn", "_law_odd"] "_law_token" (defScope s_law_token) f cdv A outer s H E)) rfl
  have rule : PSs (cxOf (L2.CX P w) P w K mg base ["_law_bag", "_law_words", "_law_word", "_law_size", "_law_letters", "_law_signs", "_law_near", "_law_some", "_law_turn", "_law_odd"] "_law_token" (defScope s_law_token) f cdv A outer s H E) (defBody s_law_token) (SF K cf_law_token (fun cls d _ H => E cls d H) b_law_token) := (ms_cons (ms_set 1 nd (m_tf (m_c (.str "and answer ask else end event given got handle if live none not off on open or over refuse replace") pe_str ⟨rfl, sok_of _⟩)))
  (ms_cons (ms_set 1 nd (m_tf (m_qcr (l := [(.fz, (opq addR [(eV 1), (eC (.str " request scope sent tell var"))])), (.fz, (eC (.str " ")))]) (CoCR.one (con_bm K PySem.F.plainAttrs_str PySem.F.slot_str_split PySem.F.type_str_split NL.m_split) rd_split chk_split) (PEs.c (m_qr (l := [(.fz, (eV 1)), (.fz, (eC (.str " request scope sent tell var")))]) co_addR (PEs.c (m_v 1 (pv 1)) (PEs.c (m_c (.str " request scope sent tell var") pe_str ⟨rfl, sok_of _⟩) PEs.nil))) (PEs.c (m_c (.str " ") pe_str ⟨rfl, sok_of _⟩) PEs.nil)))))
  (ms_cons (ms_set 2 nd (m_call (os := [.var 0, .val (qE (eV 1))]) C__law_of tk (hr.mono (by decide)) (PEs.c (pv 0) (PEs.c (m_tf (m_v 1 (pv 1))) PEs.nil))))
  (ms_cons (ms_set 3 nd (m_call (os := [.var 0, .val (qE (opq lstT [(eC (.int (1))), (eC (.int (1))), (eC (.int (2))), (eC (.int (3))), (eC (.int (8))), (eC (.int (8))), (eC (.int (9)))]))]) C__law_of tk (hr.mono (by decide)) (PEs.c (pv 0) (PEs.c (m_tf (m_qs (l := [(.fz, (eC (.int (1)))), (.fz, (eC (.int (1)))), (.fz, (eC (.int (2)))), (.fz, (eC (.int (3)))), (.fz, (eC (.int (8)))), (.fz, (eC (.int (8)))), (.fz, (eC (.int (9))))]) con_lst st_lst (PEs.c (m_c (.int (1)) pe_int rfl) (PEs.c (m_c (.int (1)) pe_int rfl) (PEs.c (m_c (.int (2)) pe_int rfl) (PEs.c (m_c (.int (3)) pe_int rfl) (PEs.c (m_c (.int (8)) pe_int rfl) (PEs.c (m_c (.int (8)) pe_int rfl) (PEs.c (m_c (.int (9)) pe_int rfl) PEs.nil))))))))) PEs.nil))))
  (ms_cons (ms_set 4 nd (m_tf (m_c (.str "abcdefghijklmnopqrstuvwxyz") pe_str ⟨rfl, sok_of _⟩)))
  (ms_cons (ms_set 5 nd (m_tf (m_qr (l := [(.fz, (opq addR [(eC (.str "!\"#$&'()*+,-./0123456789:;<=>?@ABCDEFGHIJKLMNOPQRSTUVWXYZ[]^_`")), (eV 4)])), (.fz, (eC (.str "{|}~")))]) co_addR (PEs.c (m_qr (l := [(.fz, (eC (.str "!\"#$&'()*+,-./0123456789:;<=>?@ABCDEFGHIJKLMNOPQRSTUVWXYZ[]^_`"))), (.fz, (eV 4))]) co_addR (PEs.c (m_c (.str "!\"#$&'()*+,-./0123456789:;<=>?@ABCDEFGHIJKLMNOPQRSTUVWXYZ[]^_`") pe_str ⟨rfl, sok_of _⟩) (PEs.c (m_v 4 (pv 4)) PEs.nil))) (PEs.c (m_c (.str "{|}~") pe_str ⟨rfl, sok_of _⟩) PEs.nil)))))
  (ms_cons (ms_set 6 nd (m_es (os := [.val (qE (eV 2)), .val (qE (eV 2)), .val (opn addR [.val (qE (eV 2)), .val (fCall [(.all .fz), .fz] f_law_of [.var 0, .val (qE (opq listA [(eV 4)]))])]), .val (qE (opq (slS true false) [(eV 2), (eC (.int (1)))])), .val (qE (opq (slS false true) [(eV 2), (opq negT [(eC (.int (1)))])]))]) con_lst st_lst (PEs.c (m_tf (m_v 2 (pv 2))) (PEs.c (m_tf (m_v 2 (pv 2))) (PEs.c (m_e (os := [.val (qE (eV 2)), .val (fCall [(.all .fz), .fz] f_law_of [.var 0, .val (qE (opq listA [(eV 4)]))])]) (CoR.co co_addR) (PEs.c (m_tf (m_v 2 (pv 2))) (PEs.c (m_call (os := [.var 0, .val (qE (opq listA [(eV 4)]))]) C__law_of tk (hr.mono (by decide)) (PEs.c (pv 0) (PEs.c (m_tf (m_q (l := [(.fz, (eV 4))]) (CoN.co (cn_list T.n_list)) (PEs.c (m_v 4 (pv 4)) PEs.nil))) PEs.nil))) PEs.nil))) (PEs.c (m_tf (m_qcr (l := [(.fz, (eV 2)), (.fz, (eC (.int (1))))]) (CoCR.one (con_sl1 (NL.sl_dyn K)) rd_slS (slS_chk.2 (by decide))) (PEs.c (m_v 2 (pv 2)) (PEs.c (m_c (.int (1)) pe_int rfl) PEs.nil)))) (PEs.c (m_tf (m_qcr (l := [(.fz, (eV 2)), (.fz, (opq negT [(eC (.int (1)))]))]) (CoCR.one (con_sl2 (NL.sl_dyn K)) rd_slS (slS_chk.2 (by decide))) (PEs.c (m_v 2 (pv 2)) (PEs.c (m_qr (l := [(.fz, (eC (.int (1))))]) co_neg (PEs.c (m_c (.int (1)) pe_int rfl) PEs.nil)) PEs.nil)))) PEs.nil)))))))
  (ms_cons (ms_set 7 nd (m_e (os := [.val (opn lstT [.val (opnc joinT [.val (qE (eC (.str ""))), .val (lcE (itR1 (qE (eV 3))) (gN 8) yesB b_law_token_C1 [8])])]), .val (qE (eC (.int (3))))]) (CoN.co cn_mul) (PEs.c (m_es (os := [.val (opnc joinT [.val (qE (eC (.str ""))), .val (lcE (itR1 (qE (eV 3))) (gN 8) yesB b_law_token_C1 [8])])]) con_lst st_lst (PEs.c (m_ec (os := [.val (qE (eC (.str ""))), .val (lcE (itR1 (qE (eV 3))) (gN 8) yesB b_law_token_C1 [8])]) (CoCR.co (CoCR.one (con_bm K PySem.F.plainAttrs_str PySem.F.slot_str_join PySem.F.type_str_join (NL.m_join K)) rd_join chk_join)) (PEs.c (m_tf (m_c (.str "") pe_str ⟨rfl, sok_of _⟩)) (PEs.c (m_fz (m_lc (c := cf_law_token) (own := [("_law_turn", 8)]) nd (mi_range1 (m_tf (m_v 3 (pv 3))) T.n_range) (blkOk_by (own := [("_law_turn", 8)]) (N := ["_law_bag", "_law_words", "_law_word", "_law_size", "_law_letters", "_law_signs", "_law_near", "_law_some", "_law_turn", "_law_odd"]) (sc := defScope s_law_token) (by decide +kernel)) (fun _ _ _ _ _ => (mg_name 8 nd)) (fun _ _ _ _ _ => mts_nil) (fun _ _ _ _ _ => (m_call (os := [.var 0, .val (qE (opq listA [(eV 4)]))]) C__law_of takes0 (hr.mono (by decide)) (PEs.c (pv 0) (PEs.c (m_tf (m_q (l := [(.fz, (eV 4))]) (CoN.co (cn_list T.n_list)) (PEs.c (m_v 4 (pv 4)) PEs.nil))) PEs.nil)))))) PEs.nil))) PEs.nil)) (PEs.c (m_tf (m_c (.int (3)) pe_int rfl)) PEs.nil))))
  (ms_cons (ms_set 9 nd (m_ec (os := [.val (qE (eC (.str ""))), .val (lcE (itR1 (qE (eV 3))) (gN 8) yesB b_law_token_C2 [8])]) (CoCR.co (CoCR.one (con_bm K PySem.F.plainAttrs_str PySem.F.slot_str_join PySem.F.type_str_join (NL.m_join K)) rd_join chk_join)) (PEs.c (m_tf (m_c (.str "") pe_str ⟨rfl, sok_of _⟩)) (PEs.c (m_fz (m_lc (c := cf_law_token) (own := [("_law_turn", 8)]) nd (mi_range1 (m_tf (m_v 3 (pv 3))) T.n_range) (blkOk_by (own := [("_law_turn", 8)]) (N := ["_law_bag", "_law_words", "_law_word", "_law_size", "_law_letters", "_law_signs", "_law_near", "_law_some", "_law_turn", "_law_odd"]) (sc := defScope s_law_token) (by decide +kernel)) (fun _ _ _ _ _ => (mg_name 8 nd)) (fun _ _ _ _ _ => mts_nil) (fun _ _ _ _ _ => (m_call (os := [.var 0, .val (qE (opq addL [(opq addL [(opq listA [(eV 4)]), (opq listA [(eV 4)])]), (opq listA [(eV 5)])]))]) C__law_of takes0 (hr.mono (by decide)) (PEs.c (pv 0) (PEs.c (m_tf (m_q (l := [(.fz, (opq addL [(opq listA [(eV 4)]), (opq listA [(eV 4)])])), (.fz, (opq listA [(eV 5)]))]) (CoN.co cn_add) (PEs.c (m_q (l := [(.fz, (opq listA [(eV 4)])), (.fz, (opq listA [(eV 4)]))]) (CoN.co cn_add) (PEs.c (m_q (l := [(.fz, (eV 4))]) (CoN.co (cn_list T.n_list)) (PEs.c (m_v 4 (pv 4)) PEs.nil)) (PEs.c (m_q (l := [(.fz, (eV 4))]) (CoN.co (cn_list T.n_list)) (PEs.c (m_v 4 (pv 4)) PEs.nil)) PEs.nil))) (PEs.c (m_q (l := [(.fz, (eV 5))]) (CoN.co (cn_list T.n_list)) (PEs.c (m_v 5 (pv 5)) PEs.nil)) PEs.nil)))) PEs.nil)))))) PEs.nil))))
  (ms_one (ms_ret (m_es (os := [.val (fCall [(.all .fz), .fz] f_law_of [.var 0, .val (qE (opq addL [(opq addL [(eV 6), (eV 7)]), (opq lstT [(eV 9), (eC (.str "")), (eC (.str "late")), (opq mulR [(eC (.str "x")), (eC (.int (8)))]), (opq mulR [(eC (.str "x")), (eC (.int (9)))]), (eC (.str "a1")), (eC (.str "\\"))])]))]), .val (qE (eV 1))]) con_tup st_tup (PEs.c (m_call (os := [.var 0, .val (qE (opq addL [(opq addL [(eV 6), (eV 7)]), (opq lstT [(eV 9), (eC (.str "")), (eC (.str "late")), (opq mulR [(eC (.str "x")), (eC (.int (8)))]), (opq mulR [(eC (.str "x")), (eC (.int (9)))]), (eC (.str "a1")), (eC (.str "\\"))])]))]) C__law_of tk (hr.mono (by decide)) (PEs.c (pv 0) (PEs.c (m_tf (m_q (l := [(.fz, (opq addL [(eV 6), (eV 7)])), (.fz, (opq lstT [(eV 9), (eC (.str "")), (eC (.str "late")), (opq mulR [(eC (.str "x")), (eC (.int (8)))]), (opq mulR [(eC (.str "x")), (eC (.int (9)))]), (eC (.str "a1")), (eC (.str "\\"))]))]) (CoN.co cn_add) (PEs.c (m_q (l := [(.fz, (eV 6)), (.fz, (eV 7))]) (CoN.co cn_add) (PEs.c (m_v 6 (pv 6)) (PEs.c (m_v 7 (pv 7)) PEs.nil))) (PEs.c (m_qs (l := [(.fz, (eV 9)), (.fz, (eC (.str ""))), (.fz, (eC (.str "late"))), (.fz, (opq mulR [(eC (.str "x")), (eC (.int (8)))])), (.fz, (opq mulR [(eC (.str "x")), (eC (.int (9)))])), (.fz, (eC (.str "a1"))), (.fz, (eC (.str "\\")))]) con_lst st_lst (PEs.c (m_v 9 (pv 9)) (PEs.c (m_c (.str "") pe_str ⟨rfl, sok_of _⟩) (PEs.c (m_c (.str "late") pe_str ⟨rfl, sok_of _⟩) (PEs.c (m_qr (l := [(.fz, (eC (.str "x"))), (.fz, (eC (.int (8))))]) co_mulR (PEs.c (m_c (.str "x") pe_str ⟨rfl, sok_of _⟩) (PEs.c (m_c (.int (8)) pe_int rfl) PEs.nil))) (PEs.c (m_qr (l := [(.fz, (eC (.str "x"))), (.fz, (eC (.int (9))))]) co_mulR (PEs.c (m_c (.str "x") pe_str ⟨rfl, sok_of _⟩) (PEs.c (m_c (.int (9)) pe_int rfl) PEs.nil))) (PEs.c (m_c (.str "a1") pe_str ⟨rfl, sok_of _⟩) (PEs.c (m_c (.str "\\") pe_str ⟨rfl, sok_of _⟩) PEs.nil)))))))) PEs.nil)))) PEs.nil))) (PEs.c (m_tf (m_v 1 (pv 1))) PEs.nil))))))))))))))
  have h1 : vs.length = 1 := h.1
  exact ⟨_, rule, by
    have h2 := fn_in (ls := [.fz, .fz, .fz, .fz, .fz, .fz, .fz, .fz, .fz]) h
    match vs, h1 with
    | [_], _ => exact h2⟩
end
section
open NQ
variable {P : Program} {w : World} {K : PySem.W.Frag} {mg : Str → Option Value} {base : Heap}
theorem ok_law {f : Addr} {fd : FuncData} (F : FnP K "law" "law" s_law f fd) (T : Txt K mg) (C__law_seed : Cal P w K mg base 1 "_law_seed" ["_law_script", "_law_at"] (sp_law_seed K)) (C__law_token : Cal P w K mg base 3 "_law_token" ["_law_bag"] (sp_law_token K)) (C__law_told : Cal P w K mg base 8 "_law_told" ["_law_line", "_law_kind"] (sp_law_told K)) : FnOk P w K mg base (L2.CX P w) 9 f fd ["_law_script"] (sp_law K) := by
  refine F.ok sc_law (fun vs H Q E h => h.1) (fun cdv A outer s H vs Q E hr h => ?_)
  have nd := sc_law.nd
  have tk := takes_of (E := E) (X := (cxOf (L2.CX P w) P w K mg base ["_law_script", "_law_at", "_law_bag", "_law_token_here", "_law_words", "_law_odd", "_law_sign", "_law_is_due", "_law_tails", "_law_kind", "_law_told_here"] "law" (defScope s_law) f cdv A outer s H E)) rfl rfl rfl rfl
  have po : PassesOwn (model P w) (cxOf (L2.CX P w) P w K mg base ["_law_script", "_law_at", "_law_bag", "_law_token_here", "_law_words", "_law_odd", "_law_sign", "_law_is_due", "_law_tails", "_law_kind", "_law_told_here"] "law" (defScope s_law) f cdv A outer s H E).A (cxOf (L2.CX P w) P w K mg base ["_law_script", "_law_at", "_law_bag", "_law_token_here", "_law_words", "_law_odd", "_law_sign", "_law_is_due", "_law_tails", "_law_kind", "_law_told_here"] "law" (defScope s_law) f cdv A outer s H E).env (cxOf (L2.CX P w) P w K mg base ["_law_script", "_law_at", "_law_bag", "_law_token_here", "_law_words", "_law_odd", "_law_sign", "_law_is_due", "_law_tails", "_law_kind", "_law_told_here"] "law" (defScope s_law) f cdv A outer s H E).xe := passes_of (X := (cxOf (L2.CX P w) P w K mg base ["_law_script", "_law_at", "_law_bag", "_law_token_here", "_law_words", "_law_odd", "_law_sign", "_law_is_due", "_law_tails", "_law_kind", "_law_told_here"] "law" (defScope s_law) f cdv A outer s H E)) rfl
  have rule : PSs (cxOf (L2.CX P w) P w K mg base ["_law_script", "_law_at", "_law_bag", "_law_token_here", "_law_words", "_law_odd", "_law_sign", "_law_is_due", "_law_tails", "_law_kind", "_law_told_here"] "law" (defScope s_law) f cdv A outer s H E) (defBody s_law) (SF K cf_law (fun cls d _ H => E cls d H) b_law) := (ms_cons (ms_for po (mi_range1 (m_tf (m_qr (l := [(.fz, (eC (.int (1)))), (.fz, (opq minT [(eC (.int (8))), (opq lenT [(eV 0)])]))]) (co_max T.n_max) (PEs.c (m_c (.int (1)) pe_int rfl) (PEs.c (m_qr (l := [(.fz, (eC (.int (8)))), (.fz, (opq lenT [(eV 0)]))]) (co_min T.n_min) (PEs.c (m_c (.int (8)) pe_int rfl) (PEs.c (m_qr (l := [(.fz, (eV 0))]) (co_len T.n_len) (PEs.c (m_v 0 (pv 0)) PEs.nil)) PEs.nil))) PEs.nil)))) T.n_range) (mg_name 1 nd) (ms_cons (ms_setN 2 nd (m_callN (os := [.val (qE (eV 0)), .val (qE (eV 1))]) C__law_seed tk (hr.mono (by decide)) (PEs.c (m_tf (m_v 0 (pv 0))) (PEs.c (m_tf (m_v 1 (pv 1))) PEs.nil))))
  (ms_cons (ms_asg (m_call (os := [.var 2]) C__law_token tk (hr.mono (by decide)) (PEs.c (pv 2) PEs.nil)) (mg_tup 2 (mgs_cons (mg_name 3 nd) (mgs_cons (mg_name 4 nd) mgs_nil)) (gl_cons (gl_cons gl_nil))))
  (ms_cons (ms_setLc 5 (own := [("_law_sign", 6)]) nd (mi_it (m_tf (m_v 3 (pv 3)))) (blkOk_by (own := [("_law_sign", 6)]) (N := ["_law_script", "_law_at", "_law_bag", "_law_token_here", "_law_words", "_law_odd", "_law_sign", "_law_is_due", "_law_tails", "_law_kind", "_law_told_here"]) (sc := defScope s_law) (by decide +kernel)) (fun _ _ _ _ _ => (mg_name 6 nd)) (fun _ _ _ _ _ => (mts_one (mt_qb (mt_q (l := [(.fz, (eV 6)), (.fz, (eC (.str "abcdefghijklmnopqrstuvwxyz")))]) (ct_nin hr.units) (PEs.c (m_v 6 (pv 6)) (PEs.c (m_c (.str "abcdefghijklmnopqrstuvwxyz") pe_str ⟨rfl, sok_of _⟩) PEs.nil)))))) (fun _ _ _ _ _ => (m_tf (m_v 6 (pv 6)))))
  (ms_cons (ms_set 7 nd (m_tf (m_and (m_qr (l := [(.fz, (eV 5)), (.fz, (opq lstT []))]) (co_eq hr.units) (PEs.c (m_v 5 (pv 5)) (PEs.c (m_qs (l := []) con_lst st_lst PEs.nil) PEs.nil))) (m_and (m_ch ch_le ch_le (m_c (.int (1)) pe_int rfl) (m_qr (l := [(.fz, (eV 3))]) (co_len T.n_len) (PEs.c (m_v 3 (pv 3)) PEs.nil)) (m_c (.int (8)) pe_int rfl)) (m_b1 (m_qr (l := [(.fz, (eV 3)), (.fz, (eV 4))]) (co_nin hr.units) (PEs.c (m_v 3 (pv 3)) (PEs.c (m_v 4 (pv 4)) PEs.nil))))))))
  (ms_cons (ms_set 8 nd (m_fz (m_disp (ks := [.inr "var", .inr "handle", .inr "request", .inr "event"]) (os := [.val (qE (eC (.str " 1"))), .val (qE (eC (.str ""))), .val (qE (eC (.str " 0 replace"))), .val (qE (eC (.str " 3")))]) (pps_cons pe_str (m_tf (m_c (.str " 1") pe_str ⟨rfl, sok_of _⟩)) (pps_cons pe_str (m_tf (m_c (.str "") pe_str ⟨rfl, sok_of _⟩)) (pps_cons pe_str (m_tf (m_c (.str " 0 replace") pe_str ⟨rfl, sok_of _⟩)) (pps_cons pe_str (m_tf (m_c (.str " 3") pe_str ⟨rfl, sok_of _⟩)) pps_nil)))))))
  (ms_one (ms_for po (mi_it (m_tf (m_qs (l := [(.fz, (eC (.str "var"))), (.fz, (eC (.str "handle"))), (.fz, (eC (.str "request"))), (.fz, (eC (.str "event")))]) con_lst st_lst (PEs.c (m_c (.str "var") pe_str ⟨rfl, sok_of _⟩) (PEs.c (m_c (.str "handle") pe_str ⟨rfl, sok_of _⟩) (PEs.c (m_c (.str "request") pe_str ⟨rfl, sok_of _⟩) (PEs.c (m_c (.str "event") pe_str ⟨rfl, sok_of _⟩) PEs.nil))))))) (mg_name 9 nd) (ms_cons (ms_set 10 nd (m_call (os := [.val (qE (opq addR [(opq addR [(opq addR [(eV 9), (eC (.str " "))]), (eV 3)]), (opq ixA [(eV 8), (eV 9)])])), .val (qE (eV 9))]) C__law_told tk (hr.mono (by decide)) (PEs.c (m_tf (m_qr (l := [(.fz, (opq addR [(opq addR [(eV 9), (eC (.str " "))]), (eV 3)])), (.fz, (opq ixA [(eV 8), (eV 9)]))]) co_addR (PEs.c (m_qr (l := [(.fz, (opq addR [(eV 9), (eC (.str " "))])), (.fz, (eV 3))]) co_addR (PEs.c (m_qr (l := [(.fz, (eV 9)), (.fz, (eC (.str " ")))]) co_addR (PEs.c (m_v 9 (pv 9)) (PEs.c (m_c (.str " ") pe_str ⟨rfl, sok_of _⟩) PEs.nil))) (PEs.c (m_v 3 (pv 3)) PEs.nil))) (PEs.c (m_q (l := [(.fz, (eV 8)), (.fz, (eV 9))]) (co_ix hr.units) (PEs.c (m_v 8 (pv 8)) (PEs.c (m_v 9 (pv 9)) PEs.nil))) PEs.nil)))) (PEs.c (m_tf (m_v 9 (pv 9))) PEs.nil))))
  (ms_one (ms_if (mt_qb (PW.pt (mw_or (mt_q (l := [(.fz, (eV 10)), (.fz, (ifQ (asTru (eV 7)) (opq lstT [(eV 3)]) (eC (.int (0)))))]) (ct_ne hr.units) (PEs.c (m_v 10 (pv 10)) (PEs.c (m_ifQ (mt_tru (m_v 7 (pv 7))) (m_qs (l := [(.fz, (eV 3))]) con_lst st_lst (PEs.c (m_v 3 (pv 3)) PEs.nil)) (m_c (.int (0)) pe_int rfl)) PEs.nil))) (mw_one (mt_tru (m_qr (l := [(.fz, (eV 10)), (.fz, (eC (.ty "bool")))]) (co_isi T.n_isinstance) (PEs.c (m_v 10 (pv 10)) (PEs.c (m_c (.ty "bool") (NL.q_bltn T.n_bool NL.bt_bool) rfl) PEs.nil)))))))) (ms_one (ms_ret (m_tf (m_c (.bl false) pe_bl rfl)))) ms_nil)))))))))))
  (ms_one (ms_ret (m_tf (m_c (.bl true) pe_bl rfl)))))
  have h1 : vs.length = 1 := h.1
  exact ⟨_, rule, by
    have h2 := fn_in (ls := [.fz, (.all .fz), .fz, .fz, .fz, .fz, .fz, .fz, .fz, .fz]) h
    match vs, h1 with
    | [_], _ => exact h2⟩
end
def fxs : List Fx := [.fa (.glo "BadProgram"),
  .fa (.glo "Draft"),
  .fa (.int "MOST_LINES" 60),
  .fa (.int "MOST_NAMES" 3),
  .fa (.int "MOST_TOKENS" 60),
  .fa (.glo "Program"),
  .fa (.glo "RESERVED"),
  .tup "RESERVED" [.str "and", .str "answer", .str "ask", .str "else", .str "end", .str "event", .str "given", .str "got", .str "handle", .str "if", .str "live", .str "none", .str "not", .str "off", .str "on", .str "open", .str "or", .str "over", .str "refuse", .str "replace", .str "request", .str "scope", .str "sent", .str "tell", .str "var"],
  .fa (.glo "_law_of"),
  .fa (.glo "_law_seed"),
  .fa (.glo "_law_take"),
  .fa (.glo "_law_token"),
  .fa (.glo "_law_told"),
  .fa (.free "abs"),
  .fa (.free "bool"),
  .fa (.free "dict"),
  .fa (.free "enumerate"),
  .fa (.free "int"),
  .fa (.glo "is_name"),
  .fa (.glo "is_word"),
  .fa (.free "isinstance"),
  .fa (.free "len"),
  .fa (.free "list"),
  .fa (.free "max"),
  .fa (.free "min"),
  .fa (.free "range"),
  .fa (.free "tuple"),
  .oex "BadProgram",
  .fnI "BadProgram",
  .fa (.noat "BadProgram" "at"),
  .fa (.cls "Draft"),
  .fa (.mkr "Draft"),
  .fa (.noat "Draft" "names"),
  .fa (.noat "Draft" "variables"),
  .fa (.noat "Draft" "handles"),
  .fa (.noat "Draft" "requests"),
  .fa (.noat "Draft" "events"),
  .fa (.noat "Draft" "handlers"),
  .fa (.noat "Draft" "blocks"),
  .fa (.noat "Draft" "shown"),
  .fa (.noat "Draft" "asked"),
  .fa (.cls "Program"),
  .fa (.mkr "Program"),
  .fa (.noat "Program" "variables"),
  .fa (.noat "Program" "handles"),
  .fa (.noat "Program" "requests"),
  .fa (.noat "Program" "events"),
  .fa (.noat "Program" "handlers"),
  .fa (.noat "Program" "shown"),
  .fa (.meth "Draft" "begin_handler"),
  .fnF "Draft" "begin_handler",
  .fa (.meth "Draft" "take_inside"),
  .fnF "Draft" "take_inside",
  .fa (.meth "Draft" "take_outside"),
  .fnF "Draft" "take_outside",
  .fa (.meth "Draft" "take"),
  .fnF "Draft" "take",
  .fa (.glo "law"),
  .fa (.exm "BadProgram" "BadProgram" true),
  .xf "BadProgram"]
def fys : List Fy := [.crd "Program", .cm "Program" "read"]
def d_BadProgram___init__ : He5.DefA := ⟨fun K => He.ma K (He.ga K "BadProgram") "__init__", "__init__", "BadProgram.__init__", defArgs s_BadProgram___init__, defBody s_BadProgram___init__, defScope s_BadProgram___init__, [], []⟩
def d_law_seed : He5.DefA := ⟨fun K => He.ga K "_law_seed", "_law_seed", "_law_seed", defArgs s_law_seed, defBody s_law_seed, defScope s_law_seed, [], []⟩
def d_law_take : He5.DefA := ⟨fun K => He.ga K "_law_take", "_law_take", "_law_take", defArgs s_law_take, defBody s_law_take, defScope s_law_take, [], []⟩
def d_law_of : He5.DefA := ⟨fun K => He.ga K "_law_of", "_law_of", "_law_of", defArgs s_law_of, defBody s_law_of, defScope s_law_of, [], []⟩
def d_is_word : He5.DefA := ⟨fun K => He.ga K "is_word", "is_word", "is_word", defArgs s_is_word, defBody s_is_word, defScope s_is_word, [], []⟩
def d_is_name : He5.DefA := ⟨fun K => He.ga K "is_name", "is_name", "is_name", defArgs s_is_name, defBody s_is_name, defScope s_is_name, [], []⟩
def d_Draft___init__ : He5.DefA := ⟨fun K => He.ma K (He.ga K "Draft") "__init__", "__init__", "Draft.__init__", defArgs s_Draft___init__, defBody s_Draft___init__, defScope s_Draft___init__, [], []⟩
def d_Draft_begin_handler : He5.DefA := ⟨fun K => He.ma K (He.ga K "Draft") "begin_handler", "begin_handler", "Draft.begin_handler", defArgs s_Draft_begin_handler, defBody s_Draft_begin_handler, defScope s_Draft_begin_handler, [], []⟩
def d_Draft_take_inside : He5.DefA := ⟨fun K => He.ma K (He.ga K "Draft") "take_inside", "take_inside", "Draft.take_inside", defArgs s_Draft_take_inside, defBody s_Draft_take_inside, defScope s_Draft_take_inside, [], []⟩
def d_Draft_take_outside : He5.DefA := ⟨fun K => He.ma K (He.ga K "Draft") "take_outside", "take_outside", "Draft.take_outside", defArgs s_Draft_take_outside, defBody s_Draft_take_outside, defScope s_Draft_take_outside, [], []⟩
def d_Draft_take : He5.DefA := ⟨fun K => He.ma K (He.ga K "Draft") "take", "take", "Draft.take", defArgs s_Draft_take, defBody s_Draft_take, defScope s_Draft_take, [], []⟩
def d_Program___init__ : He5.DefA := ⟨fun K => He.ma K (He.ga K "Program") "__init__", "__init__", "Program.__init__", defArgs s_Program___init__, defBody s_Program___init__, defScope s_Program___init__, [], []⟩
def d_Program_read : He5.DefA := ⟨fun K => He5.wf K (He.ga K "Program") "classmethod" "read", "read", "Program.read", defArgs s_Program_read, defBody s_Program_read, defScope s_Program_read, [], []⟩
def d_law_told : He5.DefA := ⟨fun K => He.ga K "_law_told", "_law_told", "_law_told", defArgs s_law_told, defBody s_law_told, defScope s_law_told, [], []⟩
def d_law_token : He5.DefA := ⟨fun K => He.ga K "_law_token", "_law_token", "_law_token", defArgs s_law_token, defBody s_law_token, defScope s_law_token, [], []⟩
def d_law : He5.DefA := ⟨fun K => He.ga K "law", "law", "law", defArgs s_law, defBody s_law, defScope s_law, [], []⟩
def fns : List He5.DefA := [d_BadProgram___init__, d_law_seed, d_law_take, d_law_of, d_is_word, d_is_name, d_Draft___init__, d_Draft_begin_handler, d_Draft_take_inside, d_Draft_take_outside, d_Draft_take, d_Program___init__, d_Program_read, d_law_told, d_law_token, d_law]
def tfs : List He.Defn := []
abbrev RR : PySem.W.OpenRow := PySem.W.OpenLaw.row PySem.Challenge.rw_nowlater_k11_names
def ex (K : PySem.W.Frag) : Bool := fxB fxs K && fyB fys K
abbrev hk : PySem.W.Hook := hookN 5 fns ex
def obH (s : PySem.W.SharedT) : He.AlD := obsN 5 fns ex (HandSHeadRun.getT s)
theorem obH_eq (s : PySem.W.SharedT) : obH s = hk.obs s.abs := obsN_eq (HandSHeadRun.getT_eq s)
def loose0 : List PySem.Str := ["_wall", "NowlaterError", "BadSum", "BadCondition", "BadProgram", "SIGNS", "MOST_TERMS", "is_number", "is_word", "Sum", "sum_of", "read_sum", "Reader", "Condition", "atom_holds", "compares", "RESERVED", "MOST_LINES", "MOST_TOKENS", "MOST_ASKS", "MOST_BLOCKS", "MOST_NAMES", "is_name", "Block", "Draft", "Program", "_law_seed", "_law_take", "_law_of", "_law_token", "_law_told"]
abbrev loose : List PySem.Str := loose0
theorem run (w : World) : HandSHeadRun.RunEq RR (PySem.W.view RR.prog [35]) hk obH 6000 loose w := by
  intro os
  kernel_rfl
theorem facts {P : Program} {w : World} {K : PySem.W.Frag} {h : Heap} {mg : Str → Option Value} {f : Addr} (X : K.In h) (G : h.Ns mainGlobals mg) (hfa : mg ("law" : Str) = some (.ref f)) (S : SaysN fns ex K) :
    ∃ fd : FuncData, (∀ (s : Shared) (v : Value), BindsTo s fd ⟨[v], []⟩ [("_law_script", v)]) ∧ ∀ base : Heap, K.In base → base.Ns mainGlobals mg → FnOk P w K mg base (L2.CX P w) 9 f fd ["_law_script"] (sp_law K) := by
  have c0 : (fxB fxs K && fyB fys K) = true := S.more
  rw [Bool.and_eq_true] at c0
  obtain ⟨c, cy⟩ := c0
  obtain ⟨fd_BadProgram___init__, F_BadProgram___init__⟩ := S.def_ 0 (d := d_BadProgram___init__) rfl
  obtain ⟨fd_law_seed, F_law_seed⟩ := S.def_ 1 (d := d_law_seed) rfl
  obtain ⟨fd_law_take, F_law_take⟩ := S.def_ 2 (d := d_law_take) rfl
  obtain ⟨fd_law_of, F_law_of⟩ := S.def_ 3 (d := d_law_of) rfl
  obtain ⟨fd_is_word, F_is_word⟩ := S.def_ 4 (d := d_is_word) rfl
  obtain ⟨fd_is_name, F_is_name⟩ := S.def_ 5 (d := d_is_name) rfl
  obtain ⟨fd_Draft___init__, F_Draft___init__⟩ := S.def_ 6 (d := d_Draft___init__) rfl
  obtain ⟨fd_Draft_begin_handler, F_Draft_begin_handler⟩ := S.def_ 7 (d := d_Draft_begin_handler) rfl
  obtain ⟨fd_Draft_take_inside, F_Draft_take_inside⟩ := S.def_ 8 (d := d_Draft_take_inside) rfl
  obtain ⟨fd_Draft_take_outside, F_Draft_take_outside⟩ := S.def_ 9 (d := d_Draft_take_outside) rfl
  obtain ⟨fd_Draft_take, F_Draft_take⟩ := S.def_ 10 (d := d_Draft_take) rfl
  obtain ⟨fd_Program___init__, F_Program___init__⟩ := S.def_ 11 (d := d_Program___init__) rfl
  obtain ⟨fd_Program_read, F_Program_read⟩ := S.def_ 12 (d := d_Program_read) rfl
  obtain ⟨fd_law_told, F_law_told⟩ := S.def_ 13 (d := d_law_told) rfl
  obtain ⟨fd_law_token, F_law_token⟩ := S.def_ 14 (d := d_law_token) rfl
  obtain ⟨fd_law, F_law⟩ := S.def_ 15 (d := d_law) rfl
  have T : Txt K mg := ⟨fx_free X G c 13, fx_free X G c 14, fx_free X G c 15, fx_free X G c 16, fx_free X G c 17, fx_free X G c 20, fx_free X G c 21, fx_free X G c 22, fx_free X G c 23, fx_free X G c 24, fx_free X G c 25, fx_free X G c 26, fx_int X G c 2, fx_int X G c 3, fx_int X G c 4, ⟨_, fx_glo X G c 6, rfl⟩, fun H => fx_tup c 7 (H := H), ⟨_, fx_glo X G c 0, rfl⟩, fx_glo X G c 0, ⟨_, fx_glo X G c 1, rfl⟩, fx_glo X G c 1, ⟨_, fx_glo X G c 5, rfl⟩, fx_glo X G c 5, fx_cls c 30, fx_noat c 32, fx_noat c 33, fx_noat c 34, fx_noat c 35, fx_noat c 36, fx_noat c 37, fx_noat c 38, fx_noat c 39, fx_noat c 40, fx_cls c 41, fx_noat c 43, fx_noat c 44, fx_noat c 45, fx_noat c 46, fx_noat c 47, fx_noat c 48, fx_exm c 58, fx_xf c 59, fx_noat c 29⟩
  have e := hfa.symm.trans (fx_glo X G c 57)
  cases e
  have b_BadProgram___init__ := FunD.bindsN (ps := ["self", "at"]) F_BadProgram___init__ fun _ _ _ _ _ _ us hl => match us, hl with | [_, _], _ => rfl
  have b_law_seed := FunD.bindsN (ps := ["_law_script", "_law_at"]) F_law_seed fun _ _ _ _ _ _ us hl => match us, hl with | [_, _], _ => rfl
  have b_law_take := FunD.bindsN (ps := ["_law_bag", "_law_many"]) F_law_take fun _ _ _ _ _ _ us hl => match us, hl with | [_, _], _ => rfl
  have b_law_of := FunD.bindsN (ps := ["_law_bag", "_law_some"]) F_law_of fun _ _ _ _ _ _ us hl => match us, hl with | [_, _], _ => rfl
  have b_is_word := FunD.bindsN (ps := ["token"]) F_is_word fun _ _ _ _ _ _ us hl => match us, hl with | [_], _ => rfl
  have b_is_name := FunD.bindsN (ps := ["token"]) F_is_name fun _ _ _ _ _ _ us hl => match us, hl with | [_], _ => rfl
  have b_Draft___init__ := FunD.bindsN (ps := ["self"]) F_Draft___init__ fun _ _ _ _ _ _ us hl => match us, hl with | [_], _ => rfl
  have b_Draft_begin_handler := FunD.bindsN (ps := ["self", "tokens"]) F_Draft_begin_handler fun _ _ _ _ _ _ us hl => match us, hl with | [_, _], _ => rfl
  have b_Draft_take_inside := FunD.bindsN (ps := ["self", "tokens"]) F_Draft_take_inside fun _ _ _ _ _ _ us hl => match us, hl with | [_, _], _ => rfl
  have b_Draft_take_outside := FunD.bindsN (ps := ["self", "tokens"]) F_Draft_take_outside fun _ _ _ _ _ _ us hl => match us, hl with | [_, _], _ => rfl
  have b_Draft_take := FunD.bindsN (ps := ["self", "tokens"]) F_Draft_take fun _ _ _ _ _ _ us hl => match us, hl with | [_, _], _ => rfl
  have b_Program___init__ := FunD.bindsN (ps := ["self", "lines"]) F_Program___init__ fun _ _ _ _ _ _ us hl => match us, hl with | [_, _], _ => rfl
  have b_Program_read := FunD.bindsN (ps := ["cls", "text"]) F_Program_read fun _ _ _ _ _ _ us hl => match us, hl with | [_, _], _ => rfl
  have b_law_told := FunD.bindsN (ps := ["_law_line", "_law_kind"]) F_law_told fun _ _ _ _ _ _ us hl => match us, hl with | [_, _], _ => rfl
  have b_law_token := FunD.bindsN (ps := ["_law_bag"]) F_law_token fun _ _ _ _ _ _ us hl => match us, hl with | [_], _ => rfl
  have b_law := FunD.bindsN (ps := ["_law_script"]) F_law fun _ _ _ _ _ _ us hl => match us, hl with | [_], _ => rfl
  have bA := FunD.bindsA (ps := ["_law_script"]) F_law fun _ _ _ _ _ _ us hl => match us, hl with | [_], _ => rfl
  refine ⟨fd_law, fun s v => bA s [v] rfl, fun base _ _ => ?_⟩
  have X_BadProgram : XC P w K mg base 1 "BadProgram" "at" (He.ga K "BadProgram") := ⟨fx_glo X G c 0, fx_oex c 27, fx_noat c 29, _, fd_BadProgram___init__, _, (fx_fnI c 28).1, (fx_fnI c 28).2, b_BadProgram___init__, ok_BadProgram___init__ F_BadProgram___init__ (fx_oex c 27) (fx_noat c 29)⟩
  have C__law_seed : Cal P w K mg base 1 "_law_seed" ["_law_script", "_law_at"] (sp_law_seed K) := ⟨_, fd_law_seed, fx_glo X G c 9, F_law_seed.kp, b_law_seed, ok_law_seed (P := P) (w := w) (base := base) F_law_seed T ⟩
  have C__law_take : Cal P w K mg base 1 "_law_take" ["_law_bag", "_law_many"] (sp_law_take K) := ⟨_, fd_law_take, fx_glo X G c 10, F_law_take.kp, b_law_take, ok_law_take (P := P) (w := w) (base := base) F_law_take T ⟩
  have C_is_word : Cal P w K mg base 1 "is_word" ["token"] (sp_is_word K) := ⟨_, fd_is_word, fx_glo X G c 19, F_is_word.kp, b_is_word, ok_is_word (P := P) (w := w) (base := base) F_is_word T ⟩
  have M_Draft : MkC P w K mg base 1 "Draft" (He.ga K "Draft") ["self"] (sp_Draft___init__ K) := ⟨fx_glo X G c 1, _, fd_Draft___init__, fx_mkr c 31, b_Draft___init__, ok_Draft___init__ (P := P) (w := w) (base := base) F_Draft___init__ T ⟩
  have N_Draft_begin_handler : MtC P w K mg base 1 (He.ga K "Draft") "begin_handler" ["self", "tokens"] (sp_Draft_begin_handler K) := ⟨fx_cls c 30, _, fd_Draft_begin_handler, fx_meth c 49, fx_fnF c 50, b_Draft_begin_handler, ok_Draft_begin_handler (P := P) (w := w) (base := base) F_Draft_begin_handler T ⟩
  have N_Draft_take_inside : MtC P w K mg base 1 (He.ga K "Draft") "take_inside" ["self", "tokens"] (sp_Draft_take_inside K) := ⟨fx_cls c 30, _, fd_Draft_take_inside, fx_meth c 51, fx_fnF c 52, b_Draft_take_inside, ok_Draft_take_inside (P := P) (w := w) (base := base) F_Draft_take_inside T ⟩
  have C__law_of : Cal P w K mg base 2 "_law_of" ["_law_bag", "_law_some"] (sp_law_of K) := ⟨_, fd_law_of, fx_glo X G c 8, F_law_of.kp, b_law_of, ok_law_of (P := P) (w := w) (base := base) F_law_of T C__law_take⟩
  have C_is_name : Cal P w K mg base 2 "is_name" ["token"] (sp_is_name K) := ⟨_, fd_is_name, fx_glo X G c 18, F_is_name.kp, b_is_name, ok_is_name (P := P) (w := w) (base := base) F_is_name T C_is_word⟩
  have N_Draft_take_outside : MtC P w K mg base 3 (He.ga K "Draft") "take_outside" ["self", "tokens"] (sp_Draft_take_outside K) := ⟨fx_cls c 30, _, fd_Draft_take_outside, fx_meth c 53, fx_fnF c 54, b_Draft_take_outside, ok_Draft_take_outside (P := P) (w := w) (base := base) F_Draft_take_outside T C_is_name N_Draft_begin_handler⟩
  have C__law_token : Cal P w K mg base 3 "_law_token" ["_law_bag"] (sp_law_token K) := ⟨_, fd_law_token, fx_glo X G c 11, F_law_token.kp, b_law_token, ok_law_token (P := P) (w := w) (base := base) F_law_token T C__law_of⟩
  have N_Draft_take : MtC P w K mg base 4 (He.ga K "Draft") "take" ["self", "tokens"] (sp_Draft_take K) := ⟨fx_cls c 30, _, fd_Draft_take, fx_meth c 55, fx_fnF c 56, b_Draft_take, ok_Draft_take (P := P) (w := w) (base := base) F_Draft_take T N_Draft_take_inside N_Draft_take_outside⟩
  have M_Program : MkC P w K mg base 5 "Program" (He.ga K "Program") ["self", "lines"] (sp_Program___init__ K) := ⟨fx_glo X G c 5, _, fd_Program___init__, fx_mkr c 42, b_Program___init__, ok_Program___init__ (P := P) (w := w) (base := base) F_Program___init__ T M_Draft N_Draft_take X_BadProgram⟩
  have Y_Program_read : CmC P w K mg base 7 (He.ga K "Program") "read" ["cls", "text"] (sp_Program_read K) := ⟨fy_crd cy 0, _, _, fd_Program_read, fy_cm cy 1, b_Program_read, ok_Program_read (P := P) (w := w) (base := base) F_Program_read T M_Program⟩
  have C__law_told : Cal P w K mg base 8 "_law_told" ["_law_line", "_law_kind"] (sp_law_told K) := ⟨_, fd_law_told, fx_glo X G c 12, F_law_told.kp, b_law_told, ok_law_told (P := P) (w := w) (base := base) F_law_told T Y_Program_read⟩
  exact ok_law (P := P) (w := w) (base := base) F_law T C__law_seed C__law_token C__law_told
end NL
open PySem PySem.W PySem.Calls PyProof.Rows
set_option maxHeartbeats 0 in
theorem PySem.Challenge.cw_nowlater_k11_names_holds : PySem.Challenge.rw_nowlater_k11_names.Holds := by
  w_on; o_law
  refine HandSHeadRun.head_any (r := NL.RR) (q := view NL.RR.prog [35]) (H := NL.hk) (ob := NL.obH) (M := 6000) (loose := NL.loose) (d := HandSHeadRun.topDef NL.RR.prog 35) (kwd := []) NL.obH_eq
    (by kernel_rfl) (fun s => by kernel_rfl) NL.run (by kernel_rfl) (by kernel_rfl) (by kernel_rfl) (by rfl) (by first | assumption | decide +kernel) (by decide +kernel) ⟨rfl, rfl, rfl, rfl, rfl, by decide +kernel⟩ ?hw ?hc
  case hw => w_witness2
  case hc =>
    refine LamX.walk_ofTsE (l := PySem.Challenge.rw_nowlater_k11_names) (n := 63) (k := 9) (x := "_law_script") (CX := fun w => L2.CX (PySem.Challenge.rw_nowlater_k11_names).prog w) rfl (by decide) (by kernel_rfl) ⟨rfl, by decide, by decide⟩ ?F NL.hCX
    intro w mg fa h Y G hmg0
    obtain ⟨K, KX, S⟩ := Y
    have hmg : mg ("law" : PySem.Str) = some (.ref fa) := by
      have e : (HandSHeadRun.topDef NL.RR.prog 35).name = ("law" : PySem.Str) := by kernel_rfl
      rw [← e]
      exact hmg0
    obtain ⟨fd, hb, hF⟩ := NL.facts (P := (PySem.Challenge.rw_nowlater_k11_names).prog) (w := w) KX G hmg S
    exact ⟨K, KX, fd, [], NL.sp_law K, (fun _ z => nomatch z), (fun _ z => nomatch z), (fun _ z => nomatch z), hb, fun H a ns hl hbits _ hS => NQ.law_top hS (fun s hs => NL.law_true hs hl) fun _ => rfl, fun base h1 h2 _ => hF base h1 h2⟩
#print axioms PySem.Challenge.cw_nowlater_k11_names_holds
