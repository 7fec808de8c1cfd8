import PyProof.Rows.All
import Wide.All
import OpenK.AllK
import Wide.FinOn
import HandS.ForMost
import HandS.ForExc
import HandS.Flow
import HandS.Wide
import HandS.IsInst
import HandS.ExcIs
import HandS.ExcField
import HandS.RaiseMore
import HandS.Star
import HandS.EndBits
import HandS.Walk
import HandS.NoneIn
import HandS.ExcInit
import KE.KExcInit
import PyProof.ExcBaseAll.LookupError
import PyProof.ExcBaseAll.RuntimeError
import KE.KExcIs
import KE.KStateDown
import Lean
import HandS.Defaults
import HandS.Head0
import HandS.Head1
import HandS.Head2
import HandS.HeadEnd
import HandS.HeadHook1
import HandS.HeadHook2
import HandS.HeadHook3
import HandS.HeadHook4
import HandS.EndTab
import HandS.HeadWalk
import PyProof.RulesMatch
import KE.KCallOwn
import HandS.Dict
import HandS.Strs
import HandS.Sort
import HandS.TupAny
import HandS.HeadNt
import HandS.ClsMeth
import HandS.CallLocal
import HandS.Conv
import HandS.Codes
import KE.KUnpackStar
import HandS.Style
import HandS.More
import PyProof.ListStr
import HandS.TupLen
import HandS.Zip
import HandS.TryOnly
import HandS.MakeKw
import HandS.MakeKwOnly
import KE.GoesEnum
import HandS.ExcOwn
import KE.KDictCopyH
import KE.KDictOf
import HandS.TryElse
import PyProof.ReprRoads
import HandS.Lambda
import HandS.Replace
import HandS.Nested
import HandS.Finally
import HandS.GenList
import PyProof.GenComp
import HandS.Property
import HandS.DictComp
import HandS.TupLe
import PySem.Challenge.RW_nowlater_k76_asks_answered_later
set_option Elab.async false
set_option linter.all false
set_option maxRecDepth 100000
set_option maxHeartbeats 4000000
namespace NL
open PySem L2

/-! ### step lemmas: one a reading -/
section
variable {σ : L2.St} {H : Hp} {D : Ends} {i : Nat} {v : V} {Q : VK} {QB : Bool → Hp → Prop} {QA : List V → Hp → Prop}
theorem g_var (e : σ[i]? = some (some v)) (h : Q v H) : tVar i σ H Q := ⟨v, e, h⟩
theorem g_c (h : Q v H) : tC v σ H Q := h
theorem g_op {r : R2} {ta tb : TE} (h : ta σ H fun x H1 => tb σ H1 fun y H2 => r x y H2 Q) : tOp r ta tb σ H Q := h
theorem g_un {r : V → Hp → VK → Prop} {ta : TE} (h : ta σ H fun x H1 => r x H1 Q) : tUn r ta σ H Q := h
theorem g_test {te : TE} (h : te σ H fun x H' => ∃ k, x = .bl k ∧ QB k H') : tTest te σ H QB := h
theorem g_tb {te : TE} (h : te σ H fun x H' => ∃ k, x = .bl k ∧ QB k H') : tB te σ H QB := h
theorem g_bl {b : Bool} {PB : Bool → Prop} (h : PB b) : ∃ k, V.bl b = .bl k ∧ PB k := ⟨b, rfl, h⟩
theorem g_not {t : TT} (h : t σ H fun c H1 => QB (!c) H1) : tNot t σ H QB := h
theorem g_and {t u : TT} (h : t σ H fun c H1 => if c = true then u σ H1 QB else QB false H1) : tAnd t u σ H QB := h
theorem g_or {t u : TT} (h : t σ H fun c H1 => if c = true then QB true H1 else u σ H1 QB) : tOr t u σ H QB := h
theorem g_andT {K : PySem.W.Frag} {ta tb : TE} (h : ta σ H fun x H1 => ∃ k, TruV K x H1 k ∧ if k = true then tb σ H1 Q else Q x H1) : tAndT K ta tb σ H Q := h
theorem g_orT {K : PySem.W.Frag} {ta tb : TE} (h : ta σ H fun x H1 => ∃ k, TruV K x H1 k ∧ if k = true then Q x H1 else tb σ H1 Q) : tOrT K ta tb σ H Q := h
theorem g_notT {K : PySem.W.Frag} {ta : TE} (h : ta σ H fun x H1 => ∃ k, TruV K x H1 k ∧ Q (.bl (!k)) H1) : tNotT K ta σ H Q := h
theorem g_ifE {t : TT} {ta tb : TE} (h : t σ H fun c H1 => if c = true then ta σ H1 Q else tb σ H1 Q) : tIf t ta tb σ H Q := h
theorem g_cb {r : List V → Hp → VK → Prop} {t : TA} (h : t σ H fun vs H1 => r vs H1 Q) : tCB r t σ H Q := h
theorem g_nil (h : QA [] H) : tNil σ H QA := h
theorem g_cons {ta : TE} {tr : TA} (h : ta σ H fun x H1 => tr σ H1 fun xs H2 => QA (x :: xs) H2) : tCons ta tr σ H QA := h
theorem g_callS {sp : Sp} {E : L2.St → XK} {t : TA} (h : t σ H fun vs H1 => sp vs H1 Q (E σ)) : tCallS sp E t σ H Q := h
/-- statements; the ends by places -/
theorem g_seq {t u : TS} {nx : L2.St → Hp → Prop} {rt : VK} {bk ct : L2.St → Hp → Prop} (h : t ⟨u ⟨nx, rt, bk, ct⟩, rt, bk, ct⟩ σ H) : tSeq t u ⟨nx, rt, bk, ct⟩ σ H := h
theorem g_next {nx : L2.St → Hp → Prop} {rt : VK} {bk ct : L2.St → Hp → Prop} (h : nx σ H) : tNext ⟨nx, rt, bk, ct⟩ σ H := h
theorem g_brk {nx : L2.St → Hp → Prop} {rt : VK} {bk ct : L2.St → Hp → Prop} (h : bk σ H) : tBreak ⟨nx, rt, bk, ct⟩ σ H := h
theorem g_cont {nx : L2.St → Hp → Prop} {rt : VK} {bk ct : L2.St → Hp → Prop} (h : ct σ H) : tCont ⟨nx, rt, bk, ct⟩ σ H := h
theorem g_asg {te : TE} {g : TG} {nx : L2.St → Hp → Prop} {rt : VK} {bk ct : L2.St → Hp → Prop} (h : te σ H fun x H1 => g x σ H1 nx) : tAsg te g ⟨nx, rt, bk, ct⟩ σ H := h
theorem g_drop {te : TE} {nx : L2.St → Hp → Prop} {rt : VK} {bk ct : L2.St → Hp → Prop} (h : te σ H fun _ H1 => nx σ H1) : tDrop te ⟨nx, rt, bk, ct⟩ σ H := h
theorem g_ret {te : TE} {nx : L2.St → Hp → Prop} {rt : VK} {bk ct : L2.St → Hp → Prop} (h : te σ H rt) : tRet te ⟨nx, rt, bk, ct⟩ σ H := h
theorem g_retN {nx : L2.St → Hp → Prop} {rt : VK} {bk ct : L2.St → Hp → Prop} (h : rt .non H) : tRetN ⟨nx, rt, bk, ct⟩ σ H := h
theorem g_ifS {c : TT} {t u : TS} (h : c σ H fun b H1 => if b = true then t D σ H1 else u D σ H1) : tIfS c t u D σ H := h
theorem g_name {QS : L2.St → Hp → Prop} (h : QS (σ.set i (some v)) H) : gName i v σ H QS := h
theorem g_nameE {σ' : L2.St} {QS : L2.St → Hp → Prop} (e : σ.set i (some v) = σ') (h : QS σ' H) : gName i v σ H QS := by subst e; exact h
theorem wipe_nil (σ : L2.St) : wipe σ [] = σ := rfl
theorem wipe_cons (σ : L2.St) (i : Nat) (r : List Nat) : wipe σ (i :: r) = (wipe σ r).set i none := rfl
theorem g_sub {QS : L2.St → Hp → Prop} {to ti : TE} {t : TSet} (h : to σ H fun o H1 => ti σ H1 fun i H2 => t o i v H2 fun H3 => QS σ H3) : gSub to ti t v σ H QS := h
theorem g_augE {x : V} {te : TE} {ti : TIp} {nx : L2.St → Hp → Prop} {rt : VK} {bk ct : L2.St → Hp → Prop} (e : σ[i]? = some (some x)) (h : te σ H fun y H1 => ti x y H1 fun z H2 => gName i z σ H2 nx) : tAug i te ti ⟨nx, rt, bk, ct⟩ σ H := ⟨x, e, h⟩
/-- a tuple or a list unpacked -/
def gTL (K : PySem.W.Frag) (n : Nat) (t : TGs) : TG := fun v σ H Q => ∃ a xs, v = .ref a ∧ (SqT K H a xs ∨ SqL K H a xs) ∧ xs.length = n ∧ t xs σ H Q
theorem g_gtupL {K : PySem.W.Frag} {n : Nat} {t : TGs} {a : Addr} {xs : List V} {QS : L2.St → Hp → Prop} (h1 : SqL K H a xs) (h2 : xs.length = n) (h : t xs σ H QS) : gTL K n t (.ref a) σ H QS := ⟨a, xs, rfl, .inr h1, h2, h⟩
theorem g_gtup {K : PySem.W.Frag} {n : Nat} {t : TGs} {a : Addr} {xs : List V} {QS : L2.St → Hp → Prop} (h1 : SqT K H a xs) (h2 : xs.length = n) (h : t xs σ H QS) : gTL K n t (.ref a) σ H QS := ⟨a, xs, rfl, .inl h1, h2, h⟩
theorem g_gcons {t : TG} {u : TGs} {r : List V} {QS : L2.St → Hp → Prop} (h : t v σ H fun σ' H' => u r σ' H' QS) : gCons t u (v :: r) σ H QS := ⟨v, r, rfl, h⟩
theorem g_gnil {QS : L2.St → Hp → Prop} (h : QS σ H) : gNil [] σ H QS := ⟨rfl, h⟩
theorem g_lst {t : TA} (h : t σ H fun xs H1 => xs.length ≤ sizeLine ∧ ∀ p, H1 p = none → Q (.ref p) (upd H1 p (.lst xs))) : tLst t σ H Q := h
theorem g_tup {t : TA} (h : t σ H fun xs H1 => xs.length ≤ sizeLine ∧ ∀ p, H1 p = none → Q (.ref p) (upd H1 p (.tup xs))) : tTup t σ H Q := h
theorem g_ite {b : Bool} {A B : Prop} (h1 : b = true → A) (h2 : b = false → B) : if b = true then A else B := by
  cases b
  · exact iteF (h2 rfl)
  · exact iteT (h1 rfl)
theorem g_iteD {c A B : Prop} [Decidable c] (h1 : c → A) (h2 : ¬ c → B) : if decide c = true then A else B :=
  g_ite (fun e => h1 (of_decide_eq_true e)) fun e => h2 (of_decide_eq_false e)
theorem g_iteT {b : Bool} {A B : Prop} (e : b = true) (h : A) : if b = true then A else B := by rw [e]; exact iteT h
theorem g_iteF {b : Bool} {A B : Prop} (e : b = false) (h : B) : if b = true then A else B := by rw [e]; exact iteF h
end

/-! ### rules by the values' own kinds -/
theorem opR_imp {X : Cx} {f : Value → Value → Sem Value} {r r' : R2} (h : OpR X f r) (i : ∀ x y H Q, r' x y H Q → r x y H Q) : OpR X f r' := fun pins s σ H x y v u Q I rx ry q => h pins s σ H x y v u Q I rx ry (i x y H Q q)
def dAdd : R2 := fun x y H Q => match x, y with
  | .int i, .int j => Q (.int (i + j)) H
  | .str a, .str b => a.length + b.length ≤ sizeLine ∧ Q (.str (a ++ b)) H
  | .ref p, .ref q => ∃ xs ys, H p = some (.lst xs) ∧ H q = some (.lst ys) ∧ xs.length + ys.length ≤ sizeLine ∧ ∀ l, H l = none → Q (.ref l) (upd H l (.lst (xs ++ ys)))
  | _, _ => False
theorem op_dAdd {X : Cx} : OpR X (binaryOp .Add) dAdd := by
  intro pins s σ H x y v u Q I rx ry h
  cases x <;> cases y <;> first
    | exact op_add pins s σ H _ _ v u Q I rx ry ⟨_, _, rfl, rfl, h⟩
    | exact op_add_str pins s σ H _ _ v u Q I rx ry ⟨_, _, rfl, rfl, h.1, h.2⟩
    | (obtain ⟨xs, ys, h1, h2, h3, h4⟩ := h
       exact op_cat pins s σ H _ _ v u Q I rx ry ⟨_, _, _, _, rfl, rfl, h1, h2, h3, h4⟩)
    | exact (show False from h).elim
def dSub : R2 := fun x y H Q => match x, y with
  | .int i, .int j => Q (.int (i - j)) H
  | _, _ => False
theorem op_dSub {X : Cx} : OpR X (binaryOp .Sub) dSub := opR_imp op_sub fun x y H Q h => by
  cases x <;> cases y <;> first
    | exact ⟨_, _, rfl, rfl, h⟩
    | exact (show False from h).elim
def dMul : R2 := fun x y H Q => match x, y with
  | .int i, .int j => (CMul i j ∨ CMulW i j) ∧ Q (.int (i * j)) H
  | .ref p, .int k => ∃ xs, H p = some (.lst xs) ∧ -(2 ^ 63) ≤ k ∧ k < 2 ^ 63 ∧ xs.length * k.toNat ≤ sizeLine ∧ ∀ l, H l = none → Q (.ref l) (upd H l (.lst (List.replicate k.toNat xs).flatten))
  | .str a, .int n => MulOk a n ∧ Q (.str (Txt.mul a n)) H
  | _, _ => False
theorem op_mulS {X : Cx} : OpR X (binaryOp .Mult) (fun x y H Q => ∃ a n, x = .str a ∧ y = .int n ∧ MulOk a n ∧ Q (.str (Txt.mul a n)) H) := by
  intro pins s σ H x y v u Q I rx ry h
  obtain ⟨a, n, rfl, rfl, h1, h2⟩ := h
  obtain ⟨t, rfl⟩ := (show ∃ t, v = Value.str a t from rx)
  obtain ⟨t2, rfl⟩ := (show ∃ t, u = Value.int n t from ry)
  exact SB.mul h1 fun t' k => ⟨.str (Txt.mul a n), H, I.tok k, ⟨t', rfl⟩, h2⟩
def dMod : R2 := fun x y H Q => match x, y with
  | .int i, .int j => 0 < j ∧ Q (.int (i % j)) H
  | _, _ => False
theorem op_dMod {X : Cx} : OpR X (binaryOp .Mod) dMod := opR_imp op_mod fun x y H Q h => by
  cases x <;> cases y <;> first
    | exact ⟨_, _, rfl, rfl, h.1, h.2⟩
    | exact (show False from h).elim
def dDiv : R2 := fun x y H Q => match x, y with
  | .int i, .int j => (0 < j ∧ j.natAbs.log2 < 9000) ∧ Q (.int (i / j)) H
  | _, _ => False
theorem op_dDiv {X : Cx} : OpR X (binaryOp .FloorDiv) dDiv := opR_imp op_fdivW fun x y H Q h => by
  cases x <;> cases y <;> first
    | exact ⟨_, _, rfl, rfl, h.1, h.2⟩
    | exact (show False from h).elim
theorem op_dMul {X : Cx} : OpR X (binaryOp .Mult) dMul := by
  intro pins s σ H x y v u Q I rx ry h
  cases x <;> cases y <;> first
    | (rcases h with ⟨h | h, q⟩
       · exact op_mul pins s σ H _ _ v u Q I rx ry ⟨_, _, rfl, rfl, h, q⟩
       · exact op_mulW pins s σ H _ _ v u Q I rx ry ⟨_, _, rfl, rfl, h, q⟩)
    | (obtain ⟨xs, h1, h2, h3, h4, h5⟩ := h
       exact op_rep pins s σ H _ _ v u Q I rx ry ⟨_, _, _, rfl, rfl, h1, h2, h3, h4, h5⟩)
    | exact op_mulS pins s σ H _ _ v u Q I rx ry ⟨_, _, rfl, rfl, h⟩
    | exact (show False from h).elim
def dPow : R2 := fun x y H Q => match x, y with
  | .int i, .int j => CPow i j ∧ Q (.int (i ^ j.toNat)) H
  | _, _ => False
theorem op_dPow {X : Cx} : OpR X (binaryOp .Pow) dPow := opR_imp op_pow fun x y H Q h => by
  cases x <;> cases y <;> first
    | exact ⟨_, _, rfl, rfl, h.1, h.2⟩
    | exact (show False from h).elim
/-- comparisons of ints -/
def dCmp (f : Int → Int → Bool) : R2 := fun x y H Q => match x, y with
  | .int i, .int j => Q (.bl (f i j)) H
  | _, _ => False
abbrev dLt := dCmp fun i j => decide (i < j)
abbrev dLe := dCmp fun i j => decide (i ≤ j)
abbrev dGt := dCmp fun i j => decide (j < i)
abbrev dGe := dCmp fun i j => decide (j ≤ i)
theorem dCmp_imp {f : Int → Int → Bool} (x y : V) (H : Hp) (Q : VK) (h : dCmp f x y H Q) : (rI0 fun i j => .bl (f i j)) x y H Q := by
  cases x <;> cases y <;> first
    | exact ⟨_, _, rfl, rfl, h⟩
    | exact (show False from h).elim
theorem op_dLt {X : Cx} : OpR X (compareOp .Lt) dLt := opR_imp op_lt dCmp_imp
theorem op_dLe {X : Cx} : OpR X (compareOp .LtE) dLe := opR_imp op_le dCmp_imp
theorem op_dGt {X : Cx} : OpR X (compareOp .Gt) dGt := opR_imp op_gt dCmp_imp
theorem op_dGe {X : Cx} : OpR X (compareOp .GtE) dGe := opR_imp op_ge dCmp_imp
/-- == and != : scalars, or data -/
def dEq (K : PySem.W.Frag) : R2 := fun x y H Q => rEq x y H Q ∨ rEqD K x y H Q
def dNe (K : PySem.W.Frag) : R2 := fun x y H Q => rNe x y H Q ∨ rNeD K x y H Q
theorem op_dEq0 {X : Cx} (hu : X.A.units + 64 < cLine) : OpR X (compareOp .Eq) (dEq X.K) := OpR.or op_eq (op_eqD hu)
theorem op_dNe0 {X : Cx} (hu : X.A.units + 64 < cLine) : OpR X (compareOp .NotEq) (dNe X.K) := OpR.or op_ne (op_neD hu)
/-- in, not in: one sign in a text; a flat thing in a list or tuple -/
def dIn (K : PySem.W.Frag) : R2 := fun x y H Q => match y with
  | .str z => ∃ c : Nat, x = .str ⟨#[c]⟩ ∧ Q (.bl (decide (c ∈ z.cps.toList))) H
  | .ref p => ∃ xs, (SqL K H p xs ∨ SqT K H p xs) ∧ flatV x = true ∧ xs.all flatV = true ∧ Q (.bl (inV x xs)) H
  | _ => False
def dNotIn (K : PySem.W.Frag) : R2 := fun x y H Q => match y with
  | .str z => ∃ c : Nat, x = .str ⟨#[c]⟩ ∧ Q (.bl (!decide (c ∈ z.cps.toList))) H
  | .ref p => ∃ xs, (SqL K H p xs ∨ SqT K H p xs) ∧ flatV x = true ∧ xs.all flatV = true ∧ Q (.bl (!inV x xs)) H
  | _ => False
theorem op_dIn0 {X : Cx} : OpR X (compareOp .In) (dIn X.K) := by
  intro pins s σ H x y v u Q I rx ry h
  cases y with
  | str z =>
    obtain ⟨c, e, q⟩ := h
    exact op_in_sign pins s σ H _ _ v u Q I rx ry ⟨c, z, e, rfl, q⟩
  | ref p =>
    obtain ⟨xs, h1, h2, h3, q⟩ := h
    exact op_in_seq pins s σ H _ _ v u Q I rx ry ⟨p, xs, rfl, h1, h2, h3, q⟩
  | _ => exact (show False from h).elim
theorem op_dNotIn0 {X : Cx} : OpR X (compareOp .NotIn) (dNotIn X.K) := by
  intro pins s σ H x y v u Q I rx ry h
  cases y with
  | str z =>
    obtain ⟨c, e, q⟩ := h
    exact op_notIn_sign pins s σ H _ _ v u Q I rx ry ⟨c, z, e, rfl, q⟩
  | ref p =>
    obtain ⟨xs, h1, h2, h3, q⟩ := h
    exact op_notIn_seq pins s σ H _ _ v u Q I rx ry ⟨p, xs, rfl, h1, h2, h3, q⟩
  | _ => exact (show False from h).elim
def dIs : R2 := fun x y H Q => match y with
  | .non => Q (.bl (decide (x = .non))) H
  | _ => False
def dIsNot : R2 := fun x y H Q => match y with
  | .non => Q (.bl (!decide (x = .non))) H
  | _ => False
theorem op_dIs {X : Cx} : OpR X (compareOp .Is) dIs := opR_imp op_isN fun x y H Q h => by
  cases y <;> first
    | exact ⟨rfl, h⟩
    | exact (show False from h).elim
theorem op_dIsNot {X : Cx} : OpR X (compareOp .IsNot) dIsNot := opR_imp op_notN fun x y H Q h => by
  cases y <;> first
    | exact ⟨rfl, h⟩
    | exact (show False from h).elim
/-! ### built-in calls -/
def dLen (K : PySem.W.Frag) : List V → Hp → VK → Prop := fun xs H Q => match xs with
  | [.str y] => y.length ≤ sizeLine ∧ Q (.int y.length) H
  | [.ref p] => ∃ ys, (SqL K H p ys ∨ SqT K H p ys) ∧ Q (.int ys.length) H
  | _ => False
theorem cl_len0 {X : Cx} : CallR X (.builtin "len") (dLen X.K) := by
  intro pins s σ H xs us Q I r h
  match xs, h with
  | [.str y], h => exact call_len_str pins s σ H _ us Q I r ⟨y, rfl, h.1, h.2⟩
  | [.ref p], h =>
    obtain ⟨ys, h1, q⟩ := h
    exact call_len_seq pins s σ H _ us Q I r ⟨p, ys, rfl, h1, q⟩
def dInt : List V → Hp → VK → Prop := fun xs H Q => match xs with
  | [.int i] => Q (.int i) H
  | [.bl k] => Q (.int (if k then 1 else 0)) H
  | [.str a] => ∃ n, PySem.intText? a = some n ∧ a.length ≤ 640 ∧ Q (.int n) H
  | _ => False
theorem cl_int {X : Cx} : CallR X (.type "int") dInt := by
  intro pins s σ H xs us Q I r h
  match xs, h with
  | [.int i], h => exact call_int1 pins s σ H _ us Q I r (.inl ⟨i, rfl, h⟩)
  | [.bl k], h => exact call_int1 pins s σ H _ us Q I r (.inr ⟨k, rfl, h⟩)
  | [.str a], h =>
    obtain ⟨n, h1, h2, q⟩ := h
    exact call_int_str pins s σ H _ us Q I r ⟨a, n, rfl, h1, h2, q⟩
def dStr : List V → Hp → VK → Prop := fun xs H Q => match xs with
  | [.int i] => i.natAbs.log2 < 1920 ∧ Q (.str (toString i)) H
  | [.str a] => Q (.str a) H
  | _ => False
def dAbs : List V → Hp → VK → Prop := fun xs H Q => match xs with
  | [.int i] => Q (.int (if i < 0 then -i else i)) H
  | _ => False
def dMax : List V → Hp → VK → Prop := fun xs H Q => match xs with
  | [.int i, .int j] => Q (.int (if j > i then j else i)) H
  | _ => False
def dMin : List V → Hp → VK → Prop := fun xs H Q => match xs with
  | [.int i, .int j] => Q (.int (if j < i then j else i)) H
  | _ => False
theorem cl_min {X : Cx} (hc : X.calm = true) : CallR X (.builtin "min") dMin := by
  intro pins s σ H xs us Q I r h
  match xs, h with
  | [.int i, .int j], h => exact call_min2 hc pins s σ H _ us Q I r ⟨i, j, rfl, h⟩
def dList (K : PySem.W.Frag) : List V → Hp → VK → Prop := fun xs H Q => match xs with
  | [.ref p] => ∃ ys, (SqL K H p ys ∨ SqT K H p ys) ∧ ∀ l, H l = none → Q (.ref l) (upd H l (.lst ys))
  | _ => False
theorem cl_list0 {X : Cx} : CallR X (.type "list") (dList X.K) := by
  intro pins s σ H xs us Q I r h
  match xs, h with
  | [.ref p], h =>
    obtain ⟨ys, h1, q⟩ := h
    exact call_list_of pins s σ H _ us Q I r ⟨p, ys, rfl, h1, q⟩
/-! ### subscripts, slices -/
def dIx (K : PySem.W.Frag) : R2 := fun x y H Q => match x, y with
  | .ref p, .int i => ∃ xs v, (SqL K H p xs ∨ SqT K H p xs) ∧ atI xs i = some v ∧ Q v H
  | .str z, .int i => ∃ c, z.length ≤ sizeLine ∧ atI z.cps.toList i = some c ∧ Q (.str ⟨#[c]⟩) H
  | _, _ => False
theorem ix_dyn0 {X : Cx} : IxR X (dIx X.K) := by
  intro value slice pins s σ H x y v u Q I rx ry h hs
  refine ix_seq value slice pins s σ H x y v u Q I rx ry ?_ hs
  cases x <;> cases y <;> first
    | (obtain ⟨xs, w, h1 | h1, h2, q⟩ := h
       · exact .inl ⟨_, xs, _, w, rfl, rfl, h1, h2, q⟩
       · exact .inr (.inl ⟨_, xs, _, w, rfl, rfl, h1, h2, q⟩))
    | (obtain ⟨c, h1, h2, q⟩ := h
       exact .inr (.inr ⟨_, _, c, rfl, rfl, h1, h2, q⟩))
    | exact (show False from h).elim
def dSl (K : PySem.W.Frag) : V → Option Int → Option Int → Hp → VK → Prop := fun x lo hi H Q => match x with
  | .ref p => ∃ xs, SqL K H p xs ∧ ∀ l, H l = none → Q (.ref l) (upd H l (.lst (cutV xs lo hi)))
  | .str z => z.length ≤ sizeLine ∧ Q (.str (cutS z lo hi)) H
  | _ => False
theorem sl_dyn0 {X : Cx} : SlR X (dSl X.K) := by
  intro pins s σ H x v vl vu lo hi sl Q I rx hs pl pu h
  cases x with
  | ref p =>
    obtain ⟨xs, h1, q⟩ := h
    exact sl_list pins s σ H _ v vl vu lo hi sl Q I rx hs pl pu ⟨p, xs, rfl, h1, q⟩
  | str z => exact sl_str pins s σ H _ v vl vu lo hi sl Q I rx hs pl pu ⟨z, rfl, h.1, h.2⟩
  | _ => exact (show False from h).elim
section
variable {X : Cx} (K : PySem.W.Frag)
theorem op_dIn (h : X.K = K := by rfl) : OpR X (compareOp .In) (dIn K) := h ▸ op_dIn0
theorem op_dNotIn (h : X.K = K := by rfl) : OpR X (compareOp .NotIn) (dNotIn K) := h ▸ op_dNotIn0
theorem op_dEq (hu : X.A.units + 64 < cLine) (h : X.K = K := by rfl) : OpR X (compareOp .Eq) (dEq K) := h ▸ op_dEq0 hu
theorem op_dNe (hu : X.A.units + 64 < cLine) (h : X.K = K := by rfl) : OpR X (compareOp .NotEq) (dNe K) := h ▸ op_dNe0 hu
theorem cl_len (h : X.K = K := by rfl) : CallR X (.builtin "len") (dLen K) := h ▸ cl_len0
theorem cl_list (h : X.K = K := by rfl) : CallR X (.type "list") (dList K) := h ▸ cl_list0
theorem ix_dyn (h : X.K = K := by rfl) : IxR X (dIx K) := h ▸ ix_dyn0
theorem sl_dyn (h : X.K = K := by rfl) : SlR X (dSl K) := h ▸ sl_dyn0
end
/-! ### the forms that gen.py writes -/
section
variable {X : Cx} {x : Str} {e : Expr} {es : List Expr} {te : TE} {t : TA} {pos pos' p : Pos}
theorem q_set (i : Nat) (hN : X.N.Nodup) (he : PE X e te) (hi : X.N[i]? = some x := by rfl) (hx : Loc X.env.scope x := by first | exact Or.inl rfl | exact Or.inr rfl)
    (hs : swapsWith e (some (.Name x pos')) pos.line X.env = pure false := by rfl) (hf : X.fn x = true ∨ X.env.scope.names.lookup x = some .local := by first | exact .inl rfl | exact .inr rfl) :
    PS X (.Assign [.Name x pos'] e pos) (tAsg te (gName i)) := ps_set hN hi hx he hs hf
theorem q_name (i : Nat) (hN : X.N.Nodup) (hi : X.N[i]? = some x := by rfl) (hx : Loc X.env.scope x := by first | exact Or.inl rfl | exact Or.inr rfl)
    (hf : X.fn x = true ∨ X.env.scope.names.lookup x = some .local := by first | exact .inl rfl | exact .inr rfl) : PG X (.Name x pos) (gName i) := pg_name hN hi hx hf
/-- a module's name and its value -/
def GV (mg : Str → Option Value) (x : Str) (v : V) : Prop := ∃ u, mg x = some u ∧ RelV v u
/-- a def of the module: where it stands, how it binds, what it promises -/
structure Cal (P : Program) (w : World) (K : PySem.W.Frag) (mg : Str → Option Value) (base : Heap) (k : Nat) (x : Str) (ps : List Str) (sp : Sp) : Prop where
  ex : ∃ f fd, mg x = some (.ref f) ∧ PySem.W.keepIn K (.ref f) = true ∧ Binds K fd ps [] ∧ FnOk P w K mg base (L2.CX P w) k f fd ps sp
theorem q_call {W : WX} {k : Nat} {ps : List Str} {sp : Sp} (C : Cal X.prog X.w X.K X.mg X.base k x ps sp) (tk : Takes X W) (hr : Room k X.A) (ha : PA X (e :: es) t) (hg : Gl X x := by rfl) (hdb : (x == ("__debug__" : Str)) = false := by decide)
    (he : starEach (e :: es) X.env = (false, eval e X.env) :: starEach es X.env := by rfl) (hpl : (backTo pos (starEach es X.env)).any (·.1) = false := by rfl) :
    PE X (.Call (.Name x p) (e :: es) [] pos) (tCallS sp (WE W) t) := by
  obtain ⟨f, fd, h1, h2, h3, h4⟩ := C.ex
  exact pe_callS h4 hr hg h1 h2 h3 (fun σ => passAt tk σ) ha hdb he hpl
end

/-! ### step lemmas of the rules by kinds -/
section
variable {K : PySem.W.Frag} {H : Hp} {Q : VK} {i j : Int} {a b : Str} {p : Addr} {xs : List V} {v : V} {k : Bool}
theorem g_add_i (h : Q (.int (i + j)) H) : dAdd (.int i) (.int j) H Q := h
theorem g_add_s (z : a.length + b.length ≤ sizeLine) (h : Q (.str (a ++ b)) H) : dAdd (.str a) (.str b) H Q := ⟨z, h⟩
theorem g_sub_i (h : Q (.int (i - j)) H) : dSub (.int i) (.int j) H Q := h
theorem g_mul_i (z : CMul i j ∨ CMulW i j) (h : Q (.int (i * j)) H) : dMul (.int i) (.int j) H Q := ⟨z, h⟩
theorem g_mod_i (z : 0 < j) (h : Q (.int (i % j)) H) : dMod (.int i) (.int j) H Q := ⟨z, h⟩
theorem g_div_i (z : 0 < j ∧ j.natAbs.log2 < 9000) (h : Q (.int (i / j)) H) : dDiv (.int i) (.int j) H Q := ⟨z, h⟩
theorem g_pow_i (z : CPow i j) (h : Q (.int (i ^ j.toNat)) H) : dPow (.int i) (.int j) H Q := ⟨z, h⟩
theorem g_cmp_i {f : Int → Int → Bool} (h : Q (.bl (f i j)) H) : dCmp f (.int i) (.int j) H Q := h
theorem dec_i : decide (V.int i = V.int j) = decide (i = j) := by simp
theorem dec_s : decide (V.str a = V.str b) = decide (a = b) := by simp
theorem dec_b {c d : Bool} : decide (V.bl c = V.bl d) = decide (c = d) := by simp
theorem g_eq_i (h : Q (.bl (decide (i = j))) H) : dEq K (.int i) (.int j) H Q := .inl ⟨rfl, by rw [dec_i]; exact h⟩
theorem g_eq_s (h : Q (.bl (decide (a = b))) H) : dEq K (.str a) (.str b) H Q := .inl ⟨rfl, by rw [dec_s]; exact h⟩
theorem g_eq_b {c d : Bool} (h : Q (.bl (decide (c = d))) H) : dEq K (.bl c) (.bl d) H Q := .inl ⟨rfl, by rw [dec_b]; exact h⟩
theorem g_ne_i (h : Q (.bl (!decide (i = j))) H) : dNe K (.int i) (.int j) H Q := .inl ⟨rfl, by rw [dec_i]; exact h⟩
theorem g_ne_s (h : Q (.bl (!decide (a = b))) H) : dNe K (.str a) (.str b) H Q := .inl ⟨rfl, by rw [dec_s]; exact h⟩
theorem g_ne_b {c d : Bool} (h : Q (.bl (!decide (c = d))) H) : dNe K (.bl c) (.bl d) H Q := .inl ⟨rfl, by rw [dec_b]; exact h⟩
theorem g_len_s (z : a.length ≤ sizeLine) (h : Q (.int a.length) H) : dLen K [.str a] H Q := ⟨z, h⟩
theorem g_len_l (z : SqL K H p xs ∨ SqT K H p xs) (h : Q (.int xs.length) H) : dLen K [.ref p] H Q := ⟨xs, z, h⟩
theorem g_int_i (h : Q (.int i) H) : dInt [.int i] H Q := h
theorem g_str_s (h : Q (.str a) H) : dStr [.str a] H Q := h
theorem g_abs (h : Q (.int (if i < 0 then -i else i)) H) : dAbs [.int i] H Q := h
theorem g_max (h : Q (.int (if j > i then j else i)) H) : dMax [.int i, .int j] H Q := h
theorem g_min (h : Q (.int (if j < i then j else i)) H) : dMin [.int i, .int j] H Q := h
theorem g_ix_l (z1 : SqL K H p xs ∨ SqT K H p xs) (z2 : atI xs i = some v) (h : Q v H) : dIx K (.ref p) (.int i) H Q := ⟨xs, v, z1, z2, h⟩
theorem g_ix_s {c : Nat} (z1 : a.length ≤ sizeLine) (z2 : atI a.cps.toList i = some c) (h : Q (.str ⟨#[c]⟩) H) : dIx K (.str a) (.int i) H Q := ⟨c, z1, z2, h⟩
theorem g_setL {QH : Hp → Prop} {n : Nat} (z1 : H p = some (.lst xs)) (z2 : ixN xs.length i = some n) (h : QH (upd H p (.lst (xs.set n v)))) : rSetL (.ref p) (.int i) v H QH := ⟨p, xs, i, n, rfl, rfl, z1, z2, h⟩
theorem g_isN (h : Q (.bl (decide (v = .non))) H) : dIs v .non H Q := h
theorem g_isNotN (h : Q (.bl (!decide (v = .non))) H) : dIsNot v .non H Q := h
end
theorem bt_len : bootBuiltins "len" = some (.builtin "len") := by decide +kernel
theorem bt_min : bootBuiltins "min" = some (.builtin "min") := by decide +kernel
theorem bt_repr : bootBuiltins "repr" = some (.builtin "repr") := by decide +kernel
theorem bt_int : bootBuiltins "int" = some (.type "int") := by decide +kernel
theorem bt_list : bootBuiltins "list" = some (.type "list") := by decide +kernel
/-! ### loops -/
def Loop (J : It) (g : TG) (tb : TS) (D : Ends) (σ : L2.St) (H : Hp) : Prop := ∃ W : Nat → Nat → L2.St → Hp → Prop, (∃ m, W 0 m σ H) ∧ ∀ i m σ H, W i m σ H →
  (J.stop i H ∧ D.nx σ H) ∨ (J.go i H ∧ ∃ N : L2.St → Hp → Prop, (∀ σ' H', N σ' H' → ∃ m', m' < m ∧ W (i + 1) m' σ' H') ∧ ∀ x H', J.yld i H x H' → g x σ H' fun σ2 H2 => tb { D with nx := N, ct := N, bk := D.nx } σ2 H2)
def LoopC (J : It) (g : TG) (tt : TT) (te : TE) (vs : List Nat) (σ : L2.St) (H1 : Hp) (D : Addr) (Qd : Hp → Prop) : Prop := ∃ W : Nat → Nat → Hp → Prop, (∃ m, W 0 m (upd H1 D (.lst []))) ∧ ∀ i m H, W i m H →
  (J.stop i H ∧ Qd H) ∨ (J.go i H ∧ ∃ Nx : Hp → Prop, (∀ H', Nx H' → ∃ m', m' < m ∧ W (i + 1) m' H') ∧ ∀ x H', J.yld i H x H' → g x (wipe σ vs) H' fun σ2 H2 => wipe σ2 vs = wipe σ vs ∧ tt σ2 H2 fun b H3 =>
    if b = true then te σ2 H3 fun y H4 => ∃ acc, H4 D = some (.lst acc) ∧ acc.length < sizeLine ∧ Nx (upd H4 D (.lst (acc ++ [y]))) else Nx H3)
section
variable {σ : L2.St} {H : Hp} {K : PySem.W.Frag} {R : It → Hp → Prop} {p : Addr} {xs ys : List V} {te : TE} {ta : TA}
theorem g_for {wi : TI} {g : TG} {tb : TS} {D : Ends} (h : wi σ H fun J H1 => Loop J g tb D σ H1) : tFor wi g tb D σ H := h
theorem g_lc {wi : TI} {g : TG} {tt : TT} {te : TE} {vs : List Nat} {Q : VK} (h : wi σ H fun J H1 => ∀ D, H1 D = none → LoopC J g tt te vs σ H1 D fun H' => Q (.ref D) H') : tLc wi g tt te vs σ H Q := h
theorem g_iL (h : te σ H fun x H1 => ∃ a, x = .ref a ∧ (∃ xs, SqL K H1 a xs) ∧ R (Itl K a) H1) : iList K te σ H R := h
theorem g_iL1 {Z : Addr → Prop} (z : SqL K H p xs) (h : Z p) : ∃ a, V.ref p = .ref a ∧ (∃ xs, SqL K H a xs) ∧ Z a := ⟨p, rfl, ⟨xs, z⟩, h⟩
theorem g_iT (h : te σ H fun x H1 => ∃ a, x = .ref a ∧ (∃ xs, SqT K H1 a xs) ∧ R (Itt K a) H1) : iTup K te σ H R := h
theorem g_iT1 {Z : Addr → Prop} (z : SqT K H p xs) (h : Z p) : ∃ a, V.ref p = .ref a ∧ (∃ xs, SqT K H a xs) ∧ Z a := ⟨p, rfl, ⟨xs, z⟩, h⟩
theorem g_iS (h : te σ H fun v H1 => ∃ x, v = .str x ∧ R (Its x) H1) : iStr te σ H R := h
theorem g_iS1 {Z : Str → Prop} {a : Str} (h : Z a) : ∃ x, V.str a = .str x ∧ Z x := ⟨a, rfl, h⟩
theorem g_iE (h : ta σ H fun vs H1 => ∃ a xs, vs = [.ref a] ∧ SqL K H1 a xs ∧ R (Ite K a) H1) : iEnum K ta σ H R := h
theorem g_iE1 {Z : Addr → Prop} (z : SqL K H p xs) (h : Z p) : ∃ a xs, [V.ref p] = [.ref a] ∧ SqL K H a xs ∧ Z a := ⟨p, xs, rfl, z, h⟩
theorem g_iR (h : ta σ H fun vs H1 => ∃ j : Int, vs = [.int j] ∧ -(2 ^ 62) ≤ j ∧ j < 2 ^ 62 ∧ R (Itr 0 j.toNat) H1) : iRng1 ta σ H R := h
theorem g_iR1 {j : Int} (z1 : -(2 ^ 62) ≤ j) (z2 : j < 2 ^ 62) {Z : Int → Prop} (h : Z j) : ∃ i : Int, [V.int j] = [.int i] ∧ -(2 ^ 62) ≤ i ∧ i < 2 ^ 62 ∧ Z i := ⟨j, rfl, z1, z2, h⟩
/-- the forms of loops: an invariant by the turn -/
theorem lp_it {J : It} {n : Nat} {G : Hp → Prop} {Y : Nat → Hp → V → Hp → Prop} (w : Walk J n G Y) {g : TG} {tb : TS} {nx : L2.St → Hp → Prop} {rt : VK} {bk ct : L2.St → Hp → Prop} (Pv : Nat → L2.St → Hp → Prop) (h0 : Pv 0 σ H) (hG : ∀ i σ H, i ≤ n → Pv i σ H → G H)
    (hs : ∀ i x σ H H', i < n → Pv i σ H → Y i H x H' → g x σ H' fun σ2 H2 => tb ⟨Pv (i + 1), rt, nx, Pv (i + 1)⟩ σ2 H2) (hd : ∀ σ H, Pv n σ H → nx σ H) : Loop J g tb ⟨nx, rt, bk, ct⟩ σ H := for_it w Pv h0 hG hs hd
theorem lc_by {J : It} {n : Nat} {G : Hp → Prop} {Y : Nat → Hp → V → Hp → Prop} (w : Walk J n G Y) {g : TG} {tt : TT} {te : TE} {vs : List Nat} {D : Addr} {Qd : Hp → Prop} (Pv : Nat → Hp → Prop) (h0 : Pv 0 (upd H D (.lst []))) (hG : ∀ i H, i ≤ n → Pv i H → G H)
    (hs : ∀ i x H H', i < n → Pv i H → Y i H x H' → g x (wipe σ vs) H' fun σ2 H2 => wipe σ2 vs = wipe σ vs ∧ tt σ2 H2 fun b H3 =>
      if b = true then te σ2 H3 fun y H4 => ∃ acc, H4 D = some (.lst acc) ∧ acc.length < sizeLine ∧ Pv (i + 1) (upd H4 D (.lst (acc ++ [y]))) else Pv (i + 1) H3) (hd : ∀ H, Pv n H → Qd H) : LoopC J g tt te vs σ H D Qd := lc_it w Pv h0 hG hs hd
theorem g_yes {QB : Bool → Hp → Prop} (h : QB true H) : tYes σ H QB := h
theorem g_sl {r : V → Option Int → Option Int → Hp → VK → Prop} {te : TE} {tl th : TO} {Q : VK} (h : te σ H fun x H1 => tl σ H1 fun l H2 => th σ H2 fun u H3 => r x l u H3 Q) : tSl r te tl th σ H Q := h
theorem g_noP {QO : Option Int → Hp → Prop} (h : QO none H) : tNoPart σ H QO := h
theorem g_part {QO : Option Int → Hp → Prop} {t : TE} (h : t σ H fun x H1 => ∃ i, x = .int i ∧ QO (some i) H1) : tPart t σ H QO := h
theorem g_int1 {i : Int} {Z : Int → Prop} (h : Z i) : ∃ j, V.int i = .int j ∧ Z j := ⟨i, rfl, h⟩
theorem g_slL {lo hi : Option Int} {Q : VK} (z : SqL K H p xs) (h : ∀ l, H l = none → Q (.ref l) (upd H l (.lst (cutV xs lo hi)))) : dSl K (.ref p) lo hi H Q := ⟨xs, z, h⟩
theorem g_slS {lo hi : Option Int} {Q : VK} {a : Str} (z : a.length ≤ sizeLine) (h : Q (.str (cutS a lo hi)) H) : dSl K (.str a) lo hi H Q := ⟨z, h⟩
theorem g_listL {Q : VK} (z : SqL K H p xs ∨ SqT K H p xs) (h : ∀ l, H l = none → Q (.ref l) (upd H l (.lst xs))) : dList K [.ref p] H Q := ⟨xs, z, h⟩
theorem g_inL {x : V} {Q : VK} (z1 : SqL K H p xs ∨ SqT K H p xs) (z2 : flatV x = true) (z3 : xs.all flatV = true) (h : Q (.bl (inV x xs)) H) : dIn K x (.ref p) H Q := ⟨xs, z1, z2, z3, h⟩
theorem g_ninL {x : V} {Q : VK} (z1 : SqL K H p xs ∨ SqT K H p xs) (z2 : flatV x = true) (z3 : xs.all flatV = true) (h : Q (.bl (!inV x xs)) H) : dNotIn K x (.ref p) H Q := ⟨xs, z1, z2, z3, h⟩
theorem g_inS {c : Nat} {z : Str} {Q : VK} (h : Q (.bl (decide (c ∈ z.cps.toList))) H) : dIn K (.str ⟨#[c]⟩) (.str z) H Q := ⟨c, rfl, h⟩
theorem g_ninS {c : Nat} {z : Str} {Q : VK} (h : Q (.bl (!decide (c ∈ z.cps.toList))) H) : dNotIn K (.str ⟨#[c]⟩) (.str z) H Q := ⟨c, rfl, h⟩
theorem g_bm {T : String} {r : V → List V → Hp → VK → Prop} {to : TE} {t : TA} {Q : VK} (h : to σ H fun x H1 => tyV K T x H1 ∧ t σ H1 fun xs H2 => r x xs H2 Q) : tBM K T r to t σ H Q := h
theorem g_bm0 {T : String} {r : V → List V → Hp → VK → Prop} {to : TE} {Q : VK} (h : to σ H fun x H1 => tyV K T x H1 ∧ r x [] H1 Q) : tBM0 K T r to σ H Q := h
theorem g_app {v : V} {Q : VK} (z1 : H p = some (.lst xs)) (z2 : xs.length < sizeLine) (h : Q .non (upd H p (.lst (xs ++ [v])))) : rAppend (.ref p) [v] H Q := ⟨p, xs, v, rfl, rfl, z1, z2, h⟩
theorem g_fld {ta : TE} {f : Str} {Q : VK} (h : ta σ H fun x H1 => ∃ a C dx fs v, x = .ref a ∧ H1 a = some (.ins C dx fs) ∧ Cls K C ∧ NoAttr K C f ∧ fs.lookup f = some v ∧ Q v H1) : tFld K ta f σ H Q := h
theorem g_sfld {ta tv : TE} {f : Str} {nx : L2.St → Hp → Prop} {rt : VK} {bk ct : L2.St → Hp → Prop} (h : tv σ H fun y H1 => ta σ H1 fun x H2 => ∃ a C dx fs, x = .ref a ∧ H2 a = some (.ins C dx fs) ∧ Cls K C ∧ NoAttr K C f ∧ fs.length < 1000 ∧ nx σ (upd H2 a (.ins C dx (putF f y fs)))) :
    sFld K ta tv f ⟨nx, rt, bk, ct⟩ σ H := h
theorem tyL {xs : List V} (z : SqL K H p xs) : tyV K "list" (.ref p) H := .inl ⟨rfl, xs, z⟩
theorem g_tyL {B : Prop} (z : SqL K H p xs) (h : B) : tyV K "list" (.ref p) H ∧ B := ⟨tyL z, h⟩
theorem g_tyS {B : Prop} {a : Str} (h : B) : tyV K "str" (.str a) H ∧ B := ⟨rfl, h⟩
theorem tru_b {b : Bool} {Z : Bool → Prop} (h : Z b) : ∃ k, TruV K (.bl b) H k ∧ Z k := ⟨b, rfl, h⟩
theorem tru_i {i : Int} {Z : Bool → Prop} (h : Z (i != 0)) : ∃ k, TruV K (.int i) H k ∧ Z k := ⟨_, rfl, h⟩
theorem tru_n {Z : Bool → Prop} (h : Z false) : ∃ k, TruV K .non H k ∧ Z k := ⟨_, rfl, h⟩
end
/-! ### heaps that keep what they had, but at some places -/
def Sx (W : List Addr) (H H' : Hp) : Prop := ∀ a o, a ∉ W → H a = some o → H' a = some o
theorem Sx.refl {W : List Addr} (H : Hp) : Sx W H H := fun _ _ _ h => h
theorem Sx.trans {W : List Addr} {H H1 H2 : Hp} (a : Sx W H H1) (b : Sx W H1 H2) : Sx W H H2 := fun c o h e => b c o h (a c o h e)
theorem Sx.of {W : List Addr} {H H' : Hp} (h : Same H H') : Sx W H H' := fun a o _ e => h a o e
theorem Sx.same {H H' : Hp} (h : Sx [] H H') : Same H H' := fun a o e => h a o (by simp) e
theorem Sx.new {W : List Addr} {H H' : Hp} {p : Addr} {o : HO} (h : Sx W H H') (n : H' p = none) : Sx W H (upd H' p o) := fun a u w e => by
  have q := h a u w e
  rw [upd_ne (ne_of_none q n)]; exact q
theorem Sx.mut {W : List Addr} {H H' : Hp} {p : Addr} {o : HO} (h : Sx W H H') (n : H p = none) : Sx W H (upd H' p o) := fun a u w e => by
  rw [upd_ne (ne_of_none e n)]; exact h a u w e
theorem Sx.put {W : List Addr} {H H' : Hp} {p : Addr} {o : HO} (h : Sx W H H') (n : p ∈ W) : Sx W H (upd H' p o) := fun a u w e => by
  rw [upd_ne (show a ≠ p from fun z => w (by rw [z]; exact n))]; exact h a u w e
theorem Sx.mono {W W' : List Addr} {H H' : Hp} (h : Sx W H H') (i : ∀ a ∈ W, a ∈ W') : Sx W' H H' := fun a o w e => h a o (fun z => w (i a z)) e
theorem Sx.free {W : List Addr} {H H' : Hp} {p : Addr} (h : Sx W H H') (w : p ∉ W) (n : H' p = none) : H p = none := by
  cases q : H p with
  | none => rfl
  | some o => rw [h p o w q] at n; cases n
theorem _root_.L2.Same.new {H H' : Hp} {p : Addr} {o : HO} (h : Same H H') (n : H' p = none) : Same H (upd H' p o) := fun a u e => by
  have q := h a u e
  rw [upd_ne (ne_of_none q n)]; exact q
theorem _root_.L2.Same.mut {H H' : Hp} {p : Addr} {o : HO} (h : Same H H') (n : H p = none) : Same H (upd H' p o) := fun a u e => by
  rw [upd_ne (ne_of_none e n)]; exact h a u e
/-! ### the same rules, the written part by its letter -/
section
variable {X : Cx} (K : PySem.W.Frag) {e o : Expr} {es : List Expr} {te ta tv : TE} {t : TA} {tg : Expr} {pos pos' p tpos apos cpos : Pos}
theorem q_list (he : PE X e te) (h : X.K = K := by rfl) : PI X tg e (iList K te) := h ▸ pi_list he
theorem q_tupI (he : PE X e te) (h : X.K = K := by rfl) : PI X tg e (iTup K te) := h ▸ pi_tup he
theorem q_gtup (n : Nat) {k : Nat} {ts : TGs} (h : PGs X es ts) (hc : X.calm = true := by rfl) (hn : (assignEach es X.env).length = n := by rfl) (hst : (assignEach es X.env).findIdx? (·.1) = none := by rfl) (hK : X.K = K := by rfl) :
    PG X (.Tuple es k pos) (gTL K n ts) := by
  subst hK
  refine ⟨fun pins s σ H v u Q I r q => ?_⟩
  obtain ⟨a, xs, e, h1 | h1, h2, h3⟩ := q
  · exact (pg_tup hc h hn hst).run pins s σ H v u Q I r ⟨a, xs, e, h1, h2, h3⟩
  · exact (pg_unl hc h hn hst).run pins s σ H v u Q I r ⟨a, xs, e, h1, h2, h3⟩
theorem q_truth (ha : PE X e ta) (he : ∀ whole, isTrue e X.env whole = (do let v ← whole; standAt e.pos; holding [v] (truthy v)) := by intro _; rfl) (h : X.K = K := by rfl) :
    PT X e (fun σ H Q => ta σ H fun x H' => ∃ k, TruV K x H' k ∧ Q k H') := h ▸ pt_truth ha he
theorem q_orT {b : Expr} {rest : List Expr} {tb : TE} (ha : PE X e ta) (hb : PE X (.BoolOp .Or (b :: rest) pos) tb) (h : X.K = K := by rfl) : PE X (.BoolOp .Or (e :: b :: rest) pos) (tOrT K ta tb) := h ▸ pe_orT ha hb
theorem q_andT {b : Expr} {rest : List Expr} {tb : TE} (ha : PE X e ta) (hb : PE X (.BoolOp .And (b :: rest) pos) tb) (h : X.K = K := by rfl) : PE X (.BoolOp .And (e :: b :: rest) pos) (tAndT K ta tb) := h ▸ pe_andT ha hb
theorem q_notT (ha : PE X e ta) (h : X.K = K := by rfl) : PE X (.UnaryOp .Not e pos) (tNotT K ta) := h ▸ pe_notT ha
theorem q_fld {f : Str} (ha : PE X o ta) (hb : attributeBase o f X.env (eval o X.env) = eval o X.env := by rfl) (h : X.K = K := by rfl) : PE X (.Attribute o f pos) (tFld K ta f) := h ▸ pe_fld ha hb
theorem q_sfld {f : Str} (ha : PE X o ta) (hv : PE X e tv) (hs : swapsWith e (some (.Attribute o f pos')) pos.line X.env = pure false := by rfl) (h : X.K = K := by rfl) : PS X (.Assign [.Attribute o f pos'] e pos) (sFld K ta tv f) := h ▸ ps_fld ha hv hs
section
variable {name : Str} {T id : String} {r : V → List V → Hp → VK → Prop} {to : TE}
theorem q_bm (pa : PlainAttrs T) (slot : Slot T name id) (hty : typeOf (.builtin id) = pure (.type "method_descriptor")) (hm : MtR X id r) (ho : PE X o to) (ha : PA X (e :: es) t)
    (hbase : attributeBase o name X.env (eval o X.env) = eval o X.env := by rfl)
    (hfew : ((backTo cpos (starEach (e :: es) X.env)).all (fun x => !x.1) && (backToKw cpos (keywordEach [] X.env)).all (fun x => x.1.isSome)
      && decide ((e :: es).length + ([] : List Keyword).length + (if ([] : List Keyword).isEmpty then 0 else 1) < 30)) = true := by rfl)
    (hline : (apos.endLine == cpos.line) = true := by rfl) (hs : starEach (e :: es) X.env = (false, eval e X.env) :: starEach es X.env := by rfl) (hplain : (backTo cpos (starEach es X.env)).any (·.1) = false := by rfl) (h : X.K = K := by rfl) :
    PE X (.Call (.Attribute o name apos) (e :: es) [] cpos) (tBM K T r to t) := h ▸ pe_bm pa slot hty hm ho ha hbase hfew hline hs hplain
end
theorem m_append : MtR X "list.append" rAppend := mt_append
def dJoin (K : PySem.W.Frag) : V → List V → Hp → VK → Prop := fun x xs H Q => ∃ a p, ∃ ys : List Str, x = .str a ∧ xs = [.ref p] ∧ (SqL K H p (ys.map V.str) ∨ SqT K H p (ys.map V.str)) ∧ (ys.map (·.length)).sum + ys.length * a.length ≤ 16777216 ∧ Q (.str (Txt.join a ys)) H
theorem m_join (h : X.K = K := by rfl) : MtR X "str.join" (dJoin K) := h ▸ mt_join
def dWords : V → List V → Hp → VK → Prop := fun x xs H Q => ∃ a, x = .str a ∧ xs = [] ∧ a.length + 2 ≤ sizeLine ∧ ∀ p, H p = none → Q (.ref p) (upd H p (.lst ((Txt.words a).map V.str)))
def dSplit : V → List V → Hp → VK → Prop := fun x xs H Q => ∃ a b, x = .str a ∧ xs = [.str b] ∧ (b.length == 0) = false ∧ a.length + 2 ≤ sizeLine ∧ ∀ p, H p = none → Q (.ref p) (upd H p (.lst ((Txt.split a b).map V.str)))
end
section
variable {K : PySem.W.Frag} {H : Hp} {Q : VK} {a b : Str} {p : Addr} {ys : List Str}
theorem g_join (z1 : SqL K H p (ys.map V.str) ∨ SqT K H p (ys.map V.str)) (z2 : (ys.map (·.length)).sum + ys.length * a.length ≤ 16777216) (h : Q (.str (Txt.join a ys)) H) : dJoin K (.str a) [.ref p] H Q := ⟨a, p, ys, rfl, rfl, z1, z2, h⟩
theorem g_words (z : a.length + 2 ≤ sizeLine) (h : ∀ p, H p = none → Q (.ref p) (upd H p (.lst ((Txt.words a).map V.str)))) : dWords (.str a) [] H Q := ⟨a, rfl, rfl, z, h⟩
theorem g_split (z1 : (b.length == 0) = false) (z : a.length + 2 ≤ sizeLine) (h : ∀ p, H p = none → Q (.ref p) (upd H p (.lst ((Txt.split a b).map V.str)))) : dSplit (.str a) [.str b] H Q := ⟨a, b, rfl, rfl, z1, z, h⟩
theorem g_start {t : TS} {D : Ends} {σ σ' : L2.St} {H : Hp} (e : σ = σ') (h : t D σ' H) : t D σ H := e ▸ h
end
theorem hp_same {H H' : Hp} {a : Addr} {o : HO} (s : Same H H') (e : H a = some o) : H' a = some o := s a o e
theorem hp_sx {W : List Addr} {H H' : Hp} {a : Addr} {o : HO} (s : Sx W H H') (n : a ∉ W) (e : H a = some o) : H' a = some o := s a o n e
theorem al {n : Nat} {B : Prop} (h : B) (z : Nat.ble n 16777216 = true := by rfl) : n ≤ sizeLine ∧ B := ⟨by rw [sizeLine_eq]; exact Nat.le_of_ble_eq_true z, h⟩
theorem inV_str {t : Str} {xs : List Str} : inV (.str t) (xs.map V.str) = decide (t ∈ xs) := by
  induction xs with
  | nil => rfl
  | cons x r ih =>
    have e : inV (.str t) ((x :: r).map V.str) = (eqV (.str x) (.str t) || inV (.str t) (r.map V.str)) := rfl
    rw [e, ih]
    have e2 : eqV (.str x) (.str t) = decide (t = x) := by
      show (x == t) = decide (t = x)
      by_cases h : x = t
      · subst h; simp
      · rw [decide_eq_false (fun z => h z.symm)]; simpa using h
    rw [e2, Bool.eq_iff_iff]
    simp
theorem flat_strs (xs : List Str) : (xs.map V.str).all flatV = true := by simp [flatV]
theorem flat_ints (xs : List Int) : (xs.map V.int).all flatV = true := by simp [flatV]
theorem atI_of {α : Type} {xs : List α} {i : Nat} {v : α} (h : xs[i]? = some v) : atI xs (i : Int) = some v := by
  have hl : i < xs.length := (List.getElem?_eq_some_iff.mp h).1
  unfold atI ixN
  rw [if_pos (Int.natCast_nonneg i), if_pos (by omega)]
  show xs[(i : Int).toNat]? = some v
  rw [Int.toNat_natCast]; exact h
theorem sqL_same {K : PySem.W.Frag} {H H' : Hp} {a : Addr} {xs : List V} (h : SqL K H a xs) (e : Same H H') : SqL K H' a xs := Same.seq e h
section
variable {K : PySem.W.Frag} {H : Hp} {Q : VK} {p : Addr}
theorem g_ip {f : Int → Int → Int} {i j : Int} (h : Q (.int (f i j)) H) : ipI f (.int i) (.int j) H Q := ⟨i, j, rfl, rfl, h⟩
theorem g_rU {g : Int → V} {i : Int} (h : Q (g i) H) : rU g (.int i) H Q := ⟨i, rfl, h⟩
theorem g_inLs {t : Str} {ns : List Str} (z1 : SqL K H p (ns.map V.str) ∨ SqT K H p (ns.map V.str)) (h : Q (.bl (decide (t ∈ ns))) H) : dIn K (.str t) (.ref p) H Q := ⟨_, z1, rfl, flat_strs ns, by rw [inV_str]; exact h⟩
theorem g_ninLs {t : Str} {ns : List Str} (z1 : SqL K H p (ns.map V.str) ∨ SqT K H p (ns.map V.str)) (h : Q (.bl (!decide (t ∈ ns))) H) : dNotIn K (.str t) (.ref p) H Q := ⟨_, z1, rfl, flat_strs ns, by rw [inV_str]; exact h⟩
end
section
variable {K : PySem.W.Frag} {H : Hp} {p C dx : Addr} {fs : List (Str × V)} {f : Str} {v : V}
theorem g_gf {Z : V → Prop} (z1 : H p = some (.ins C dx fs)) (z2 : Cls K C) (z3 : NoAttr K C f) (z4 : fs.lookup f = some v) (h : Z v) : ∃ a C dx fs v, V.ref p = .ref a ∧ H a = some (.ins C dx fs) ∧ Cls K C ∧ NoAttr K C f ∧ fs.lookup f = some v ∧ Z v := ⟨p, C, dx, fs, v, rfl, z1, z2, z3, z4, h⟩
theorem g_sf {Z : Hp → Prop} (z1 : H p = some (.ins C dx fs)) (z2 : Cls K C) (z3 : NoAttr K C f) (z4 : fs.length < 1000) (h : Z (upd H p (.ins C dx (putF f v fs)))) :
    ∃ a C dx fs, V.ref p = .ref a ∧ H a = some (.ins C dx fs) ∧ Cls K C ∧ NoAttr K C f ∧ fs.length < 1000 ∧ Z (upd H a (.ins C dx (putF f v fs))) := ⟨p, C, dx, fs, rfl, z1, z2, z3, z4, h⟩
end
/-! ### data: lists of texts, of ints compared -/
section
variable {K : PySem.W.Frag} {H : Hp} {Q : VK} {p q : Addr}
theorem sok_asc {x : Str} (h : ∀ c ∈ x.cps.toList, c ≤ 127) : PyData.strOk x = true := by
  unfold PyData.strOk
  rw [← Array.all_toList, List.all_eq_true]
  intro c hc
  have := h c hc
  exact decide_eq_true (by omega)
end
theorem iteNT {A B : Prop} (h : B) : if (!true) = true then A else B := iteF h
theorem iteNF {A B : Prop} (h : A) : if (!false) = true then A else B := iteT h
end NL
/-! own exception classes over any built-in one (ValueError, LookupError, RuntimeError) -/
namespace NL
open PySem L2
/-- own classes, then a given rest -/
def refsB (tl : List Value) : List Value → Bool
  | .ref _ :: r => refsB tl r
  | l => decide (l = tl)
theorem refsB_cut {tl : List Value} : ∀ {l : List Value}, refsB tl l = true → l = tl ∨ ∃ c r, l = .ref c :: r ∧ refsB tl r = true
  | [], h => .inl (of_decide_eq_true h)
  | a :: r, h => by
    cases a with
    | ref c => exact .inr ⟨c, r, rfl, h⟩
    | _ => exact .inl (of_decide_eq_true h)
theorem refsB_has {tl : List Value} (n : String) : ∀ {l : List Value}, refsB tl l = true → l.contains (.type n) = tl.contains (.type n) := fun {l} => by
  induction l with
  | nil => intro h; rcases refsB_cut h with e | ⟨_, _, e, _⟩
           · rw [← e]
           · cases e
  | cons a r ih =>
    intro h
    rcases refsB_cut h with e | ⟨c, q, e, h2⟩
    · rw [← e]
    · cases e
      rw [List.contains_cons, ih h2] <;> rfl
theorem refsB_goes {tl : List Value} {v : Value} (p : PySem.refuseLoop v "__setattr__" tl = pure ()) : ∀ {l : List Value}, refsB tl l = true → PySem.refuseLoop v "__setattr__" l = pure () := fun {l} => by
  induction l with
  | nil => intro h; rcases refsB_cut h with e | ⟨_, _, e, _⟩
           · rw [e]; exact p
           · cases e
  | cons a r ih =>
    intro h
    rcases refsB_cut h with e | ⟨c, q, e, h2⟩
    · rw [e]; exact p
    · cases e
      rw [PySem.refuseLoop_ref]
      exact ih h2
/-- what is known of a built-in exception class that an own one comes from -/
def BaseT (nw : String) (tl : List Value) : Prop := ∃ B ini, ExcBaseFacts B nw ini tl ∧ (∀ v : Value, PySem.refuseLoop v "__setattr__" tl = pure ()) ∧ tl.contains (.type "object") = true
theorem baseT_val : BaseT "ValueError.__new__" [.type "ValueError", .type "Exception", .type "BaseException", .type "object"] := ⟨_, _, F.excBase_ValueError, F.store_ValueError.passes, by decide +kernel⟩
theorem baseT_look : BaseT "LookupError.__new__" [.type "LookupError", .type "Exception", .type "BaseException", .type "object"] := ⟨_, _, F.excBase_LookupError, F.store_LookupError.passes, by decide +kernel⟩
theorem baseT_run : BaseT "RuntimeError.__new__" [.type "RuntimeError", .type "Exception", .type "BaseException", .type "object"] := ⟨_, _, F.excBase_RuntimeError, F.store_RuntimeError.passes, by decide +kernel⟩
/-- an own exception class with a dict -/
structure OexG (K : PySem.W.Frag) (C : Addr) : Prop where
  cls : ∃ nm q N bs bm sn sub ab col dd k0 k1 k2 k3 k5 nw tl, K.lookup C = some (excClassObj nm q C N bs bm true sn sub ab col dd k0 k1 k2 k3 k5 nw) ∧ refsB tl bm = true ∧ BaseT nw tl
  sa : PySem.W.findIn K (.ref C) "__setattr__" = some (some (.builtin "object.__setattr__"))
  exC : PySem.W.subIn K (.ref C) (.type "BaseException") = some true
  tyC : PySem.W.typeIn K (.ref C) = some (.type "type")
  kC : PySem.W.keepIn K (.ref C) = true
section
open Builtin Builtin.ObjectAttr
variable {P : Program} {w : World} {A : Around} {R : Result → Shared → Prop} {h : Heap} {gs : Array GenState} {dr : Drawn} {tk : Nat} {os : OsState}
/-- the first field of an exception -/
theorem osa_first {K : PySem.W.Frag} {f : Str} {ft : Tok} {u : Value} {x C : Addr} {fv : Array Value} {cd : ClassData} {tl : List Value} (kin : K.In h) (hx : h.get? x = some { cls := .ref C, data := .fields fv }) (hc : PySem.W.clsIn K C = some cd)
    (hm : refsB tl cd.mro = true) (p : PySem.refuseLoop (.ref x) "__setattr__" tl = pure ()) (ho : tl.contains (.type "object") = true) (hd : cd.hasDict = true) (na : PySem.W.findIn K (.ref C) f = some none)
    (k : ∀ h' t' dx, (∀ b o, b ≠ x → h.get? b = some o → h'.get? b = some o) → h.objs.size ≤ dx → dx ≠ x → h'.get? x = some { cls := .ref C, dict := some dx, data := .fields fv } → h'.Ns1 dx (fun y => if y = f then some u else none) → R (.ok (.ret .none)) ⟨h', gs, dr, t', os⟩) :
    codeAny (model P w) A (.call (.builtin "object.__setattr__") ⟨[.ref x, .str f ft, u], []⟩) R ⟨h, gs, dr, tk, os⟩ := by
  have J : PySem.W.InstAt h x { cls := .ref C, data := .fields fv } C none := ⟨hx, rfl, rfl, trivial⟩
  have O := F.store_object
  have hob : cd.mro.contains (.type "object") = true := (refsB_has "object" hm).trans ho
  have hne : cd.mro.isEmpty = false := by
    cases q : cd.mro with
    | nil => rw [q] at hob; cases hob
    | cons => rfl
  have far : x ≠ h.objs.size := Nat.ne_of_lt (Heap.lt_size hx)
  have isO : PySem.W.Looks (model P w) h (isInstance (.ref x) (.type "object")) true := J.type.andThen (PySem.W.looks_mroIn kin (by unfold PySem.W.mroIn; rw [hc, Option.bind_some, hne, if_neg Bool.false_ne_true, hob]))
  refine codeAny_call_builtin O.slot.plain O.entry (@PySem.W.check_slot (model P w) _ _ ⟨h, gs, dr, tk, os⟩ "object.__setattr__" "object" "__setattr__" (.ref x) [.str f ft, u] [] _ O.kind O.split isO (O.args (.ref x) (.str f ft) u) ?_)
  have m1 : PySem.W.Looks (model P w) h (mroOf (.ref C)) cd.mro := (PySem.W.looks_clsIn kin hc).andThen .now
  have m2 : PySem.W.Looks (model P w) h (storeTaker? none) none := .now
  have m3 : PySem.W.Looks (model P w) h (classData C) cd := PySem.W.looks_clsIn kin hc
  rw [PySem.W.osa_eq, refuse_eq]
  refine wpAny_bind (wpAny_bind (J.type.at (wpAny_bind (m1.at ?_))))
  rw [refsB_goes p hm]
  refine wpAny_pure (wpAny_bind (J.type.at (wpAny_bind ((PySem.W.looks_findIn kin na).at (wpAny_bind (m2.at ?_))))))
  show wpAny _ _ (storeInOwnDict (.ref x) (.ref C) (.str f ft) f u false) _ _ _
  obtain ⟨_, _, _, _, _, b, _, _, _, _, _⟩ := cd
  obtain rfl : b = true := hd
  unfold storeInOwnDict ownDictForStores
  repeat (first | with_reducible refine PySem.HandSPX.store_in_new ?_ ?_ | with_reducible refine wpAny_loadPart_at hx ?_ | with_reducible refine m3.at ?_ | wp_step)
  · exact ⟨_, #[], _, (Heap.get?_update_ne _ _ _ _ far.symm).trans (Heap.get?_push_at rfl rfl), rfl, (fun e z => absurd z (by simp)), fun _ => rfl⟩
  · intro h' t' n' sb
    have px : (h.push { cls := .type "dict", data := .dict #[] }).get? x = some { cls := .ref C, data := .fields fv } := Heap.get?_push_of_some _ hx
    exact k h' t' h.objs.size (fun b o hb e => (sb.2 b (Nat.ne_of_lt (Heap.lt_size e))).trans ((Heap.get?_update_ne _ _ _ _ hb).trans (Heap.get?_push_of_some _ e))) (Nat.le_refl _) far.symm ((sb.2 x far).trans (Heap.get?_update_self _ px rfl)) n'
end
section
variable {X : Cx} {pins : List (Addr × Obj)} {σ : L2.St} {H : Hp} {s : Shared} {a C : Addr} {f : Str} {y : V} {u : Value} {Q : Unit → Shared → Prop} {E : Value → Shared → Prop} {A : Around}
theorem clsIn_exc {K : PySem.W.Frag} {nm q : Str} {C N : Addr} {bs bm sub : List Value} {sn : List Str} {ab : Bool} {col : Option Bool} {dd : Option Addr} {k0 k1 k2 k3 k5 : Option Value} {nw : String} (e : K.lookup C = some (excClassObj nm q C N bs bm true sn sub ab col dd k0 k1 k2 k3 k5 nw)) :
    ∃ cd, PySem.W.clsIn K C = some cd ∧ cd.mro = .ref C :: bm ∧ cd.hasDict = true := by
  refine ⟨_, by unfold PySem.W.clsIn; rw [e] <;> rfl, rfl, rfl⟩
/-- self.f = y, the first one -/
theorem ost_first (T : OexG X.K C) (I : Inv X pins σ H s) (e : H a = some (exo a C none)) (hno : PySem.W.findIn X.K (.ref C) f = some none) (ry : RelV y u)
    (k : ∀ dx s', H dx = none → dx ≠ a → Inv X pins σ (upd (upd H dx (exd dx [(f, y)])) a (exo a C (some dx))) s' → Q () s') : wpAny (model X.prog X.w) A (setAttr (.ref a) f u) Q E s := by
  obtain ⟨nm, q, N, bs, bm, sn, sub, ab, col, dd, k0, k1, k2, k3, k5, nw, tl, hC, hbm, B, ini, FB, hp, hob⟩ := T.cls
  obtain ⟨cd, hcd, hmro, hdict⟩ := clsIn_exc hC
  obtain ⟨t1, at1⟩ := exo_at I.hok e
  obtain ⟨hh, gs, dr, tk, os⟩ := s
  refine PySem.W.set_plain I.kIn (ox := { cls := .ref C, dict := none, data := .fields #[.ref t1, .none, .none, .none, .bool false, .none] }) (od := none) ⟨at1, rfl, rfl, trivial⟩ T.sa ?_
  refine osa_first (tl := tl) I.kIn at1 hcd (by rw [hmro]; exact hbm) (hp _) hob hdict hno fun h' t' dx kp far ne hx hn => ?_
  have nD : H dx = none := I.hok.fresh far
  have offD : ∀ {b : Addr} {o : Obj}, hh.get? b = some o → b ≠ dx := fun z => Nat.ne_of_lt (Nat.lt_of_lt_of_le (Heap.lt_size z) far)
  have offA : ∀ {b : Addr}, H b = none → b ≠ a := fun n z => by rw [z, e] at n; cases n
  have U1 : Un X.fs [] H (upd (upd H dx (exd dx [(f, y)])) a (exo a C (some dx))) hh h' := {
    keep := fun b o z n _ _ => kp b o (offA n) z
    slot := fun b o z n _ _ => ⟨o.slots, kp b o (offA n) z⟩
    free := fun b o z n _ => (upd_ne (offA n)).trans ((upd_ne (offD z)).trans n)
    there := fun b o z _ => by
      by_cases ba : b = a
      · rw [ba]; exact ⟨_, hx⟩
      · exact ⟨_, kp b o ba z⟩
    tups := fun b xs z => (upd_ne (at_ne e z exo_tup)).trans ((upd_ne (ne_of_none z nD)).trans z)
    frzs := fun b o v z => (upd_ne (at_ne e z exo_frz)).trans ((upd_ne (ne_of_none z nD)).trans z)
    tbls := fun b ps z => ⟨#[], by rw [upd_ne (at_ne e z exo_tbl), upd_ne (ne_of_none z nD), z, Array.append_empty]⟩ }
  refine k dx _ nD ne (I.un (t' := t') U1 fun b o z => ?_)
  by_cases ba : b = a
  · rw [ba, upd_same] at z
    cases z
    rw [ba]
    exact exo_ok hx
  rw [upd_ne ba] at z
  by_cases bd : b = dx
  · rw [bd, upd_same] at z
    cases z
    rw [bd]
    exact exd_ok hn (relO_put (fs := []) ry fun _ => True.intro)
  rw [upd_ne bd] at z
  refine (I.hok b o z).stay (fun c v hc w => kp c v ?_ w) (fun c hc => (upd_ne (at_ne e hc exo_own)).trans ((upd_ne (ne_of_none hc nD)).trans hc)) fun c xs hc => (upd_ne (at_ne e hc exo_tup)).trans ((upd_ne (ne_of_none hc nD)).trans hc)
  rcases hc with hc | hc
  · rw [hc]; exact ba
  · exact at_ne e hc exo_own
end
/-- self.f = e, the first field of an exception -/
def tOf (K : PySem.W.Frag) (f : Str) (to te : TE) : TS := fun D σ H => te σ H fun y H1 => to σ H1 fun x H2 => ∃ a C : Addr, x = .ref a ∧ OexG K C ∧ PySem.W.findIn K (.ref C) f = some none ∧ H2 a = some (exo a C none) ∧
  ∀ dx, H2 dx = none → dx ≠ a → D.nx σ (upd (upd H2 dx (exd dx [(f, y)])) a (exo a C (some dx)))
section
variable {X : Cx} {o e : Expr} {es : List Expr} {to te : TE} {ta : TA} {f : Str} {p p' pos : Pos}
theorem ps_of (ho : PE X o to) (he : PE X e te) (hs : swapsWith e (some (.Attribute o f p')) pos.line X.env = pure false := by rfl) : PS X (.Assign [.Attribute o f p'] e pos) (tOf X.K f to te) := by
  refine ⟨fun pins s σ H D I h => ?_⟩
  refine plainObj_wpAny_Assign_Attribute (thn (he.run pins s σ H _ I h) fun v s1 ⟨y, H1, I1, r1, q1⟩ => thn (ho.run pins s1 σ H1 _ I1 q1) fun u s2 ⟨x, H2, I2, r2, a, C, ex, T, no, ea, q⟩ => ?_) hs
  subst ex
  obtain rfl : u = .ref a := r2
  exact ost_first T I2 ea no r1 fun dx s' n ne J => ⟨σ, _, J, q dx n ne⟩
/-- C(e, ..) for an own exception class C -/
theorem pmk_g {CX : CXT} {x : Str} {C fI : Addr} {k : Nat} {fd : FuncData} {ps : List Str} {sp : Sp} (T : OexG X.K C) (iC : PySem.W.findIn X.K (.ref C) "__init__" = some (some (.ref fI))) (tI : PySem.W.typeIn X.K (.ref fI) = some (.type "function"))
    (F1 : FnOk X.prog X.w X.K X.mg X.base CX k fI fd ps sp) (hr : Room (k + 1) X.A) (hb : Binds X.K fd ps []) (hx : Passes CX X (fun _ _ _ => False)) (hg : Gl X x) (hm : X.mg x = some (.ref C)) (ha : PA X (e :: es) ta)
    (hdb : (x == ("__debug__" : Str)) = false := by decide) (he : starEach (e :: es) X.env = (false, eval e X.env) :: starEach es X.env := by rfl) (hpl : (backTo pos (starEach es X.env)).any (·.1) = false := by rfl) :
    PMk X (.Call (.Name x p) (e :: es) [] pos) (tMkO C sp [] ta) := by
  intro pins s σ H Q I h
  obtain ⟨nm, q, N, bs, bm, sn, sub, ab, col, dd, k0, k1, k2, k3, k5, nw, tl, hC, hbm, B, ini, FB, hp, hob⟩ := T.cls
  refine wpAny_Call_Name_kw (ld_glob I hg hm ?_ hdb)
  refine PySem.W.callWith_K (h₀ := X.base) I.ok.mod.kin T.kC (thn (ha.run pos pins s σ H _ I h) fun us s1 ⟨vs, H1, I1, r1, hz, q1⟩ => ⟨I1.kIn, ?_⟩) he hpl
  show wpAny _ _ (call (.ref C) us) _ _ _
  obtain ⟨hh, gs, dr, tk, os⟩ := s1
  generalize hA : hh.objs.size + 1 = A1
  have le : hh.objs.size ≤ A1 := by omega
  have nA : H1 A1 = none := I1.hok.fresh le
  have hq := q1 A1 nA
  have kk : ∀ b o, hh.get? b = some o → ((hh.push (PySem.W.kdv_tup us)).push (PySem.HandSPX.excO C hh.objs.size)).get? b = some o := fun b o z => Heap.get?_push_of_some _ (Heap.get?_push_of_some _ z)
  have at1 : ((hh.push (PySem.W.kdv_tup us)).push (PySem.HandSPX.excO C hh.objs.size)).get? A1 = some (PySem.HandSPX.excO C hh.objs.size) := by subst hA; heap_get
  have I2 : Inv X pins σ (upd H1 A1 (exo A1 C none)) ⟨(hh.push (PySem.W.kdv_tup us)).push (PySem.HandSPX.excO C hh.objs.size), gs, dr, tk, os⟩ := I1.laid (t' := tk) kk le (exo_ok at1)
  have r2 : Vals (V.ref A1 :: (vs ++ [])) (Value.ref A1 :: us) := .cons rfl (by rw [List.append_nil]; exact r1)
  have hl : (Value.ref A1 :: us).length = ps.length := r2.length.symm.trans (F1.len _ _ _ _ hq)
  have hus : us.length ≤ sizeLine := by
    have := Paired.length r1
    rw [← this, sizeLine_eq]
    omega
  have hb2 := hb _ (Value.ref A1 :: us) I2.kIn (by rw [List.append_nil]; exact hl)
  rw [List.append_nil] at hb2
  refine wpAny_call (PySem.HandSPX.call_own FB (fun n => refsB_has n hbm) (I1.kIn _ _ hC) (PySem.W.looks_findIn I1.kIn iC) (fun z => PySem.W.bind_fn I1.kIn z tI) hus ?_)
  rw [hA]
  refine codeAny_mono (F1.run _ X.stack _ _ ⟨Value.ref A1 :: us, []⟩ (Value.ref A1 :: us) _ _ (fun _ _ _ => False) (hr.make C us []) (I2.env0.make C us []) hb2 r2 hq) fun r s' z => ?_
  cases r with
  | error er => exact hx pins σ _ _ er s' I2 z
  | ok fl =>
    cases fl with
    | ret v =>
      obtain ⟨v', H2, o2, b2, un2, ok2, rv, ev, d, fs, ea, ed, n1, q2⟩ := z
      subst ev
      obtain ⟨h2, g2, d2, t2, o3⟩ := s'
      exact ⟨rv, mk_end (raises_own T.exC T.tyC) I1 le kk un2 ok2 o2 b2 ea ed n1 q2⟩
    | _ => exact z.elim
end
/-- asked of the written part -/
def oexgB (K : PySem.W.Frag) (C : Addr) : Bool := (match K.lookup C with
  | some ⟨.type t, _, .cls cd, sl⟩ => decide (t = "type") && (match cd.mro, sl.toList with
    | .ref c :: bm, [_, _, _, _, some (.builtin n), _] => decide (c = C) && (!cd.hasDel && (cd.hasDict && ((decide (n = "ValueError.__new__") && refsB [.type "ValueError", .type "Exception", .type "BaseException", .type "object"] bm) ||
      ((decide (n = "LookupError.__new__") && refsB [.type "LookupError", .type "Exception", .type "BaseException", .type "object"] bm) || (decide (n = "RuntimeError.__new__") && refsB [.type "RuntimeError", .type "Exception", .type "BaseException", .type "object"] bm)))))
    | _, _ => false)
  | _ => false) && (decide (PySem.W.findIn K (.ref C) "__setattr__" = some (some (.builtin "object.__setattr__"))) && (decide (PySem.W.subIn K (.ref C) (.type "BaseException") = some true) && (decide (PySem.W.typeIn K (.ref C) = some (.type "type")) && PySem.W.keepIn K (.ref C))))
theorem oexgB_ok {K : PySem.W.Frag} {C : Addr} (h : oexgB K C = true) : OexG K C := by
  unfold oexgB at h
  simp only [Bool.and_eq_true, decide_eq_true_eq] at h
  obtain ⟨h0, h1, h2, h3, h4⟩ := h
  refine ⟨?_, h1, h2, h3, h4⟩
  split at h0
  · rename_i t dd cd sl ho
    simp only [Bool.and_eq_true, decide_eq_true_eq] at h0
    obtain ⟨rfl, h0⟩ := h0
    split at h0
    · rename_i c bm k0 k1 k2 k3 n k5 hm hs
      simp only [Bool.and_eq_true, Bool.or_eq_true, decide_eq_true_eq, Bool.not_eq_true'] at h0
      obtain ⟨rfl, del, hd, hr⟩ := h0
      have key : ∃ tl, refsB tl bm = true ∧ BaseT n tl := by
        rcases hr with ⟨rfl, q⟩ | ⟨rfl, q⟩ | ⟨rfl, q⟩
        · exact ⟨_, q, baseT_val⟩
        · exact ⟨_, q, baseT_look⟩
        · exact ⟨_, q, baseT_run⟩
      obtain ⟨tl, q, bt⟩ := key
      obtain ⟨nm, bs, mro, ns, qn, hd', sn, sub, ab, col, del'⟩ := cd
      dsimp only at hm del hd
      subst hm del hd
      have hsl : sl = #[k0, k1, k2, k3, some (.builtin n), k5] := by
        obtain ⟨l⟩ := sl
        simp only at hs
        rw [hs]
      subst hsl
      exact ⟨nm, qn, ns, bs, bm, sn, sub, ab, col, dd, k0, k1, k2, k3, k5, n, tl, ho, q, bt⟩
    · cases h0
  · cases h0
end NL
namespace NL
open PySem L2
/-! ### own exceptions of one field -/
/-- what __init__(self, f): self.f = f does to the exception that is being made -/
def sp_xi (C : Addr) (f : Str) : Sp := fun vs H Q _ => ∃ (a : Addr) (v : V), vs = [.ref a, v] ∧ H a = some (exo a C none) ∧
  ∀ dx, H dx = none → dx ≠ a → Q .non (upd (upd H dx (exd dx [(f, v)])) a (exo a C (some dx)))
/-- what is known of an own exception class x with the field f -/
structure XC (P : Program) (w : World) (K : PySem.W.Frag) (mg : Str → Option Value) (base : Heap) (k : Nat) (x f : Str) (C : Addr) : Prop where
  g : mg x = some (.ref C)
  o : OexG K C
  no : PySem.W.findIn K (.ref C) f = some none
  fn : ∃ (fI : Addr) (fd : FuncData) (ps : List Str), PySem.W.findIn K (.ref C) "__init__" = some (some (.ref fI)) ∧ PySem.W.typeIn K (.ref fI) = some (.type "function") ∧ Binds K fd ps [] ∧ FnOk P w K mg base (L2.CX P w) k fI fd ps (sp_xi C f)
theorem del_upd {H : Hp} {a d : Addr} {o1 o2 o3 o4 : HO} (ha : H a = none) (hd : d ≠ a) : upd (del (upd (upd (upd H a o1) d o2) a o3) a) d o4 = upd H d o4 := by
  funext b
  by_cases e : b = d
  · subst e; rw [upd_same, upd_same]
  · rw [upd_ne e, upd_ne e]
    by_cases e2 : b = a
    · subst e2; rw [del_same, ha]
    · rw [del_ne e2, upd_ne e2, upd_ne e, upd_ne e2]
section
variable {X : Cx} {k : Nat} {x f : Str} {C : Addr} {e : Expr} {es : List Expr} {ta : TA} {p pos pos2 : Pos}
def tMkX (C : Addr) (f : Str) (ta : TA) : L2.St → Hp → XK → Prop := fun σ H Q => ta σ H fun vs H1 => ∃ v, vs = [v] ∧ ∀ d, H1 d = none → Q (.ref C) (some d) (upd H1 d (.xd [(f, v)]))
theorem pmk_x (T : XC X.prog X.w X.K X.mg X.base k x f C) (hr : Room (k + 1) X.A) (ha : PA X (e :: es) ta) (hg : Gl X x := by rfl) (hdb : (x == ("__debug__" : Str)) = false := by decide)
    (he : starEach (e :: es) X.env = (false, eval e X.env) :: starEach es X.env := by rfl) (hpl : (backTo pos (starEach es X.env)).any (·.1) = false := by rfl) :
    PMk X (.Call (.Name x p) (e :: es) [] pos) (tMkX C f ta) := by
  obtain ⟨fI, fd, ps, iC, tI, hb, F1⟩ := T.fn
  have ha' : PA X (e :: es) (fun σ H Q => ta σ H fun vs H1 => Q vs H1) := ha
  intro pins s σ H Q I h
  have base := pmk_g (p := p) T.o iC tI F1 hr hb passL hg T.g (ta := fun σ H Q => ∃ (R : List V → Hp → Prop), ta σ H R ∧ ∀ vs H', R vs H' → Q vs H')
    (⟨fun pos pins s σ H Q I q => by
      obtain ⟨R, h1, h2⟩ := q
      exact thn (ha.run pos pins s σ H R I h1) fun us s1 ⟨vs, H1, I1, r, q1⟩ => ⟨vs, H1, I1, r, h2 vs H1 q1⟩⟩) hdb he hpl
  refine base pins s σ H Q I ⟨_, h, fun vs H1 hv => ?_⟩
  obtain ⟨v, rfl, hv⟩ := hv
  refine ⟨by show 1 ≤ 1000; decide, fun a ha1 => ⟨a, v, rfl, upd_same, fun dx hdx hne => ⟨rfl, dx, [(f, v)], upd_same, ?_, ?_, ?_⟩⟩⟩
  · rw [upd_ne hne, upd_same]
  · have := hdx
    rw [upd_ne hne] at this
    exact this
  · rw [del_upd ha1 hne]
    rw [upd_ne hne] at hdx
    exact hv dx hdx
/-- raise x(e) -/
def tRaiseX (C : Addr) (f : Str) (W : WX) (ta : TA) : TS := fun _ σ H => ta σ H fun vs H1 => ∃ v, vs = [v] ∧ ∀ d, H1 d = none → W (.ref C) (some d) σ (upd H1 d (.xd [(f, v)]))
theorem q_raise {W : WX} (T : XC X.prog X.w X.K X.mg X.base k x f C) (tk : Takes X W) (hr : Room (k + 1) X.A) (ha : PA X (e :: es) ta) (hc : X.calm = true := by rfl) (hg : Gl X x := by rfl) (hdb : (x == ("__debug__" : Str)) = false := by decide)
    (he : starEach (e :: es) X.env = (false, eval e X.env) :: starEach es X.env := by rfl) (hpl : (backTo pos (starEach es X.env)).any (·.1) = false := by rfl) :
    PS X (.Raise (some (.Call (.Name x p) (e :: es) [] pos)) none pos2) (tRaiseX C f W ta) := ps_raise hc tk (pmk_x T hr ha hg hdb he hpl)
theorem g_raise {C : Addr} {f : Str} {W : WX} {ta : TA} {D : Ends} {σ : L2.St} {H : Hp} (h : ta σ H fun vs H1 => ∃ v, vs = [v] ∧ ∀ d, H1 d = none → W (.ref C) (some d) σ (upd H1 d (.xd [(f, v)]))) : tRaiseX C f W ta D σ H := h
theorem g_raised {v : V} {Z : V → Prop} (h : Z v) : ∃ u, [v] = [u] ∧ Z u := ⟨v, rfl, h⟩
end
/-! ### in an except suite: isinstance of the exception that is held, its field -/
/-! ### an own class made, its methods called; what is raised goes to the taker -/
structure MkC (P : Program) (w : World) (K : PySem.W.Frag) (mg : Str → Option Value) (base : Heap) (k : Nat) (x : Str) (C : Addr) (ps : List Str) (sp : Sp) : Prop where
  g : mg x = some (.ref C)
  fn : ∃ (f : Addr) (fd : FuncData), Mk K C f ∧ Binds K fd ps [] ∧ FnOk P w K mg base (L2.CX P w) k f fd ps sp
structure MtC (P : Program) (w : World) (K : PySem.W.Frag) (mg : Str → Option Value) (base : Heap) (k : Nat) (C : Addr) (m : Str) (ps : List Str) (sp : Sp) : Prop where
  c : Cls K C
  fn : ∃ (f : Addr) (fd : FuncData), Meth K C m f ∧ PySem.W.fnIn K f = true ∧ Binds K fd ps [] ∧ FnOk P w K mg base (L2.CX P w) k f fd ps sp
section
variable {X : Cx} {k : Nat} {x m : Str} {C : Addr} {e o : Expr} {es : List Expr} {t : TA} {ta : TE} {p pos apos : Pos} {ps : List Str} {sp : Sp} {W : WX}
def tMakeS (C : Addr) (sp : Sp) (E : L2.St → XK) (t : TA) : TE := fun σ H Q => t σ H fun vs H1 => ∀ x dx, H1 x = none → H1 dx = none → dx ≠ x →
  sp (.ref x :: vs) (upd (upd H1 dx (.own x)) x (.ins C dx [])) (fun v H2 => v = .non ∧ Q (.ref x) H2) (E σ)
theorem run_makeS {f : Addr} {fd : FuncData} {pins : List (Addr × Obj)} {σ : L2.St} {H : Hp} {s : Shared} {Q : VK} {us : List Value} {vs : List V} (M : Mk X.K C f) (F : FnOk X.prog X.w X.K X.mg X.base (L2.CX X.prog X.w) k f fd ps sp) (hr : Room (k + 1) X.A) (hb : Binds X.K fd ps [])
    (tk : Takes X W) (I : Inv X pins σ H s) (r : Vals vs us)
    (h : ∀ x dx, H x = none → H dx = none → dx ≠ x → sp (.ref x :: vs) (upd (upd H dx (.own x)) x (.ins C dx [])) (fun v H2 => v = .non ∧ Q (.ref x) H2) (WE W σ)) :
    wpAny (model X.prog X.w) X.A (call (.ref C) us) (EP X pins σ Q) X.xe s := by
  have hq := h (s.heap.objs.size + 1) s.heap.objs.size (I.hok.fresh (Nat.le_succ _)) (I.hok.fresh (Nat.le_refl _)) (Nat.ne_of_lt (Nat.lt_succ_self _))
  have I2 := Inv.made (C := C) I
  have r2 : Vals (V.ref (s.heap.objs.size + 1) :: vs) (Value.ref (s.heap.objs.size + 1) :: us) := .cons rfl r
  have hl : (Value.ref (s.heap.objs.size + 1) :: us).length = ps.length := by
    have e := r2.length
    rw [F.len _ _ _ _ hq] at e
    exact e.symm
  have hb2 := hb _ (Value.ref (s.heap.objs.size + 1) :: us) I2.kIn (by rw [List.append_nil]; exact hl)
  rw [List.append_nil] at hb2
  refine wpAny_call (make_map (f := f) I.kIn M.makes M.init (beq_iff_eq.mp M.fn) (codeAny_mono (F.run _ X.stack _ _ ⟨Value.ref (s.heap.objs.size + 1) :: us, []⟩ (Value.ref (s.heap.objs.size + 1) :: us) _ _ (WE W σ) (hr.make C us [])
    (I2.env0.make C us []) hb2 r2 hq) fun r s' hq' => ?_))
  cases r with
  | error e => exact passAt tk σ pins _ _ e s' I2 hq'
  | ok fl =>
    cases fl with
    | ret u =>
      obtain ⟨v, H', I3, rv, ev, q3⟩ := I2.after hq'
      subst ev
      exact ⟨rv, ⟨V.ref (s.heap.objs.size + 1), H', I3, rfl, q3⟩⟩
    | next => exact False.elim hq'
    | brk => exact False.elim hq'
    | cont => exact False.elim hq'
theorem q_make (M : MkC X.prog X.w X.K X.mg X.base k x C ps sp) (tk : Takes X W) (hr : Room (k + 1) X.A) (ha : PA X (e :: es) t) (hg : Gl X x := by rfl) (hdb : (x == ("__debug__" : Str)) = false := by decide)
    (he : starEach (e :: es) X.env = (false, eval e X.env) :: starEach es X.env := by rfl) (hpl : (backTo pos (starEach es X.env)).any (·.1) = false := by rfl) :
    PE X (.Call (.Name x p) (e :: es) [] pos) (tMakeS C sp (WE W) t) := by
  obtain ⟨f, fd, M1, hb, F⟩ := M.fn
  refine ⟨fun pins s σ H Q I h => ?_⟩
  refine wpAny_Call_Name_kw (ld_glob I hg M.g ?_ hdb)
  refine PySem.W.callWith_K (h₀ := X.base) I.ok.mod.kin M1.kp (thn (ha.run pos pins s σ H _ I h) fun us s1 ⟨vs, H1, I1, r, q⟩ => ⟨I1.kIn, ?_⟩) he hpl
  exact run_makeS M1 F hr hb tk I1 r q
theorem g_make {C : Addr} {sp : Sp} {E : L2.St → XK} {t : TA} {σ : L2.St} {H : Hp} {Q : VK} (h : t σ H fun vs H1 => ∀ x dx, H1 x = none → H1 dx = none → dx ≠ x →
    sp (.ref x :: vs) (upd (upd H1 dx (.own x)) x (.ins C dx [])) (fun v H2 => v = .non ∧ Q (.ref x) H2) (E σ)) : tMakeS C sp E t σ H Q := h
/-- o.m(..) -/
def tMethS (C : Addr) (m : Str) (sp : Sp) (E : L2.St → XK) (ta : TE) (t : TA) : TE := fun σ H Q => ta σ H fun x H1 => ∃ a dx fs, x = .ref a ∧ H1 a = some (.ins C dx fs) ∧ fs.lookup m = none ∧ t σ H1 fun vs H2 => sp (x :: vs) H2 Q (E σ)
theorem q_meth {pl : Sem Bool} (M : MtC X.prog X.w X.K X.mg X.base k C m ps sp) (tk : Takes X W) (hr : Room k X.A) (he : PE X o ta) (ha : PA X (e :: es) t)
    (hst : starEach (e :: es) X.env = (false, eval e X.env) :: starEach es X.env := by rfl) (hpl : (backTo pos (starEach es X.env)).any (·.1) = false := by rfl)
    (ht : eval (.Call (.Attribute o m apos) (e :: es) [] pos) X.env = (do
      let ov ← eval o X.env
      standAt apos.atName
      let (f, first) ← holding [ov] (getMethod ov m pl)
      callWith pos f first (backTo pos (starEach (e :: es) X.env)) (backToKw pos (keywordEach [] X.env))) := by rfl) :
    PE X (.Call (.Attribute o m apos) (e :: es) [] pos) (tMethS C m sp (WE W) ta t) := by
  obtain ⟨f, fd, hm, _, hb, F⟩ := M.fn
  refine ⟨fun pins s σ H Q I h => ?_⟩
  refine PySem.W.methodCall_KW (pl := pl) (thn (he.run pins s σ H _ I h) fun u s1 ⟨x, H1, I1, rx, a, dx, fs, ex, ea, l, q⟩ => ?_) ht
  subst ex
  obtain rfl : u = Value.ref a := rx
  refine getmeth_ok I1 ea M.c hm l ?_
  refine PySem.W.callWith_K (first := [.ref a]) (h₀ := X.base) I.ok.mod.kin hm.kp (thn (ha.run pos pins s1 σ H1 _ I1 q) fun us s2 ⟨vs, H2, I2, r, q2⟩ => ⟨I2.kIn, ?_⟩) hst hpl
  exact run_fnS (us := .ref a :: us) (vs := .ref a :: vs) (E := WE W) F hr hb (passAt tk σ) I2 (.cons rfl r) q2
theorem q_meth0 {pl : Sem Bool} (M : MtC X.prog X.w X.K X.mg X.base k C m ps sp) (tk : Takes X W) (hr : Room k X.A) (he : PE X o ta)
    (ht : eval (.Call (.Attribute o m apos) [] [] pos) X.env = (do
      let ov ← eval o X.env
      standAt apos.atName
      let (f, first) ← holding [ov] (getMethod ov m pl)
      callWith pos f first (backTo pos (starEach [] X.env)) (backToKw pos (keywordEach [] X.env))) := by rfl) :
    PE X (.Call (.Attribute o m apos) [] [] pos) (tMethS C m sp (WE W) ta tNil) := by
  obtain ⟨f, fd, hm, _, hb, F⟩ := M.fn
  refine ⟨fun pins s σ H Q I h => ?_⟩
  refine PySem.W.methodCall_KW (pl := pl) (thn (he.run pins s σ H _ I h) fun u s1 ⟨x, H1, I1, rx, a, dx, fs, ex, ea, l, q⟩ => ?_) ht
  subst ex
  obtain rfl : u = Value.ref a := rx
  refine getmeth_ok I1 ea M.c hm l ?_
  exact PySem.W.callWith_K0 (first := [.ref a]) I1.kIn hm.kp (run_fnS (us := [.ref a]) (vs := [.ref a]) (E := WE W) F hr hb (passAt tk σ) I1 (.cons rfl .nil) q)
theorem g_meth {C : Addr} {m : Str} {sp : Sp} {E : L2.St → XK} {ta : TE} {t : TA} {σ : L2.St} {H : Hp} {Q : VK} (h : ta σ H fun x H1 => ∃ a dx fs, x = .ref a ∧ H1 a = some (.ins C dx fs) ∧ fs.lookup m = none ∧ t σ H1 fun vs H2 => sp (x :: vs) H2 Q (E σ)) : tMethS C m sp E ta t σ H Q := h
end
end NL
namespace NL
open PySem L2
/-! ### facts of the written part, asked once at the head -/
def excB (K : PySem.W.Frag) (D : Addr) : Bool := decide (PySem.W.findIn K (.ref D) "__getattribute__" = some (some (.builtin "BaseException.__getattribute__"))) && (decide (PySem.W.findIn K (.ref D) "__getattr__" = some none) && (decide (PySem.W.subIn K (.ref D) (.type "BaseException") = some true) && (PySem.W.hasDictIn K D &&
  (decide (PySem.W.findIn K (.ref D) "__class__" = some (some (.builtin "object.__class__"))) && (decide (PySem.W.specialIn K (.builtin "object.__class__") "__get__" = some (some (.builtin "getset_descriptor.__get__"))) && (decide (PySem.W.takesIn K (.builtin "object.__class__") = some true) && decide (PySem.W.mroIn K D (.type "object") = some true)))))))
/-- a class by its name: a module's one, or a built-in type -/
inductive Cn where
  | own (x : Str) | ty (n : String)
def Cn.v (K : PySem.W.Frag) : Cn → Value
  | .own x => .ref (He.ga K x)
  | .ty n => .type n
inductive Fx where
  | fa (f : He.Fa)
  /-- an own exception class with a dict -/
  | oex (x : Str)
  | fnI (x : Str)
  | excC (x : Str)
  | xf (x : Str)
  /-- isinstance of an x in y -/
  | kit (x : Str) (y : Cn) (b : Bool)
  | tup (x : Str) (vs : List He.Dv)
  | fnF (x m : Str)
def fnB (K : PySem.W.Frag) (x : Str) : Bool := He.eqO (PySem.W.findIn K (.ref (He.ga K x)) "__init__") (some (some (.ref (He.ma K (He.ga K x) "__init__")))) && decide (PySem.W.typeIn K (.ref (He.ma K (He.ga K x) "__init__")) = some (.type "function"))
def Fx.ok (K : PySem.W.Frag) : Fx → Bool
  | .fa f => f.ok K
  | .oex x => oexgB K (He.ga K x)
  | .fnI x => fnB K x
  | .excC x => excB K (He.ga K x)
  | .xf x => xfB K (He.ga K x)
  | .kit x y b => decide (PySem.W.kitOne K (.ref (He.ga K x)) (y.v K) = some b)
  | .tup x vs => He.tupB K x vs
  | .fnF x m => PySem.W.fnIn K (He.ma K (He.ga K x) m)
def fxB (l : List Fx) (K : PySem.W.Frag) : Bool := l.all fun f => f.ok K
theorem fxB_at {l : List Fx} {K : PySem.W.Frag} (h : fxB l K = true) (i : Nat) {f : Fx} (e : l[i]? = some f := by rfl) : f.ok K = true :=
  List.all_eq_true.mp h f (List.mem_of_getElem? e)
section
variable {K : PySem.W.Frag} {h : Heap} {mg : Str → Option Value} {l : List Fx}
theorem fx_glo (X : K.In h) (G : h.Ns mainGlobals mg) (c : fxB l K = true) (i : Nat) {x : Str} (e : l[i]? = some (.fa (.glo x)) := by rfl) : mg x = some (.ref (He.ga K x)) := He.glo_ok X G (fxB_at c i e)
theorem fx_free (X : K.In h) (G : h.Ns mainGlobals mg) (c : fxB l K = true) (i : Nat) {x : Str} (e : l[i]? = some (.fa (.free x)) := by rfl) : mg x = none := He.free_ok X G (fxB_at c i e)
theorem fx_cls (c : fxB l K = true) (i : Nat) {x : Str} (e : l[i]? = some (.fa (.cls x)) := by rfl) : Cls K (He.ga K x) := He.cls_ok (fxB_at c i e)
theorem fx_noat (c : fxB l K = true) (i : Nat) {x f : Str} (e : l[i]? = some (.fa (.noat x f)) := by rfl) : NoAttr K (He.ga K x) f := He.noat_ok (fxB_at c i e)
theorem fx_meth (c : fxB l K = true) (i : Nat) {x m : Str} (e : l[i]? = some (.fa (.meth x m)) := by rfl) : Meth K (He.ga K x) m (He.ma K (He.ga K x) m) := He.meth_ok (fxB_at c i e)
theorem fx_fnF (c : fxB l K = true) (i : Nat) {x m : Str} (e : l[i]? = some (.fnF x m) := by rfl) : PySem.W.fnIn K (He.ma K (He.ga K x) m) = true := fxB_at c i e
theorem fx_mkr (c : fxB l K = true) (i : Nat) {x : Str} (e : l[i]? = some (.fa (.mkr x)) := by rfl) : Mk K (He.ga K x) (He.ma K (He.ga K x) "__init__") := He.mkr_ok (fxB_at c i e)
theorem fx_oex (c : fxB l K = true) (i : Nat) {x : Str} (e : l[i]? = some (.oex x) := by rfl) : OexG K (He.ga K x) := oexgB_ok (fxB_at c i e)
theorem fx_fnI (c : fxB l K = true) (i : Nat) {x : Str} (e : l[i]? = some (.fnI x) := by rfl) : PySem.W.findIn K (.ref (He.ga K x)) "__init__" = some (some (.ref (He.ma K (He.ga K x) "__init__"))) ∧ PySem.W.typeIn K (.ref (He.ma K (He.ga K x) "__init__")) = some (.type "function") := by
  have q : fnB K x = true := fxB_at c i e
  unfold fnB at q
  simp only [Bool.and_eq_true, decide_eq_true_eq] at q
  exact ⟨He.eqO_ok q.1, q.2⟩
end
theorem hCX {P : Program} (w : World) (H : Hp) (s : Shared) (e : Value) (s' : Shared) (h : L2.CX P w [] H s (fun _ _ _ => False) e s') : False := by
  obtain ⟨_, _, _, _, _, _, _, _, _, _, _, _, z⟩ := h
  exact z
end NL
namespace NL
open PySem L2
/-! ### match over texts: written texts, | of them, _ ; a guard -/
section
variable {X : Cx} {K : PySem.W.Frag}
def tMnil : Str → TS := fun _ D σ H => D.nx σ H
def tMcs (ks : List Str) (tb : TS) (tr : Str → TS) : Str → TS := fun a D σ H => if decide (a ∈ ks) = true then tb D σ H else tr a D σ H
def tMcg (ks : List Str) (tg : TT) (tb : TS) (tr : Str → TS) : Str → TS := fun a D σ H => if decide (a ∈ ks) = true then tg σ H (fun b H1 => if b = true then tb D σ H1 else tr a D σ H1) else tr a D σ H
def tMany (tb : TS) : Str → TS := fun _ D σ H => tb D σ H
def tMatch (te : TE) (tc : Str → TS) : TS := fun D σ H => te σ H fun x H1 => ∃ a, x = .str a ∧ tc a D σ H1
variable {σ : L2.St} {H : Hp} {D : Ends} {a : Str} {ks : List Str}
theorem g_match {te : TE} {tc : Str → TS} (h : te σ H fun x H1 => ∃ a, x = .str a ∧ tc a D σ H1) : tMatch te tc D σ H := h
theorem g_matched {Z : Str → Prop} (h : Z a) : ∃ b, V.str a = .str b ∧ Z b := ⟨a, rfl, h⟩
theorem g_mcs {tb : TS} {tr : Str → TS} (h : if decide (a ∈ ks) = true then tb D σ H else tr a D σ H) : tMcs ks tb tr a D σ H := h
theorem g_mcg {tg : TT} {tb : TS} {tr : Str → TS} (h : if decide (a ∈ ks) = true then tg σ H (fun b H1 => if b = true then tb D σ H1 else tr a D σ H1) else tr a D σ H) : tMcg ks tg tb tr a D σ H := h
theorem g_many {tb : TS} (h : tb D σ H) : tMany tb a D σ H := h
theorem g_mnil {nx : L2.St → Hp → Prop} {rt : VK} {bk ct : L2.St → Hp → Prop} (h : nx σ H) : tMnil a ⟨nx, rt, bk, ct⟩ σ H := h
/-! ### fields -/
theorem q_afld (K : PySem.W.Frag) {o value : Expr} {f : Str} {pos tpos : Pos} {ta tv : TE} {op : Operator} {rd : V → V → Hp → VK → Prop} (ha : PE X o ta) (hv : PE X value tv) (hop : InOp X op rd) (h : X.K = K := by rfl) :
    PS X (.AugAssign (.Attribute o f tpos) op value pos) (sFldAug K ta tv rd f) := h ▸ ps_fldaug ha hv hop
theorem g_afld {ta tv : TE} {rd : V → V → Hp → VK → Prop} {f : Str} {nx : L2.St → Hp → Prop} {rt : VK} {bk ct : L2.St → Hp → Prop} (h : ta σ H fun x H1 => ∃ a C dx fs v, x = .ref a ∧ H1 a = some (.ins C dx fs) ∧ Cls K C ∧ NoAttr K C f ∧ fs.lookup f = some v ∧
    tv σ H1 fun y H2 => rd v y H2 fun z H3 => ∃ dx' fs', H3 a = some (.ins C dx' fs') ∧ fs'.length < 1000 ∧ nx σ (upd H3 a (.ins C dx' (putF f z fs')))) : sFldAug K ta tv rd f ⟨nx, rt, bk, ct⟩ σ H := h
theorem g_rAdd {i j : Int} {Q : VK} (h : Q (.int (i + j)) H) : rAdd (.int i) (.int j) H Q := ⟨i, j, rfl, rfl, h⟩
theorem g_rSub {i j : Int} {Q : VK} (h : Q (.int (i - j)) H) : rSub (.int i) (.int j) H Q := ⟨i, j, rfl, rfl, h⟩
theorem g_af {p C dx : Addr} {fs : List (Str × V)} {Z : Addr → List (Str × V) → Prop} (z1 : H p = some (.ins C dx fs)) (z4 : fs.length < 1000) (h : Z dx fs) : ∃ dx' fs', H p = some (.ins C dx' fs') ∧ fs'.length < 1000 ∧ Z dx' fs' := ⟨dx, fs, z1, z4, h⟩
theorem g_gfa {p C dx : Addr} {fs : List (Str × V)} {f : Str} {v : V} {Z : Addr → Addr → V → Prop} (z1 : H p = some (.ins C dx fs)) (z2 : Cls K C) (z3 : NoAttr K C f) (z4 : fs.lookup f = some v) (h : Z p C v) :
    ∃ a C dx fs v, V.ref p = .ref a ∧ H a = some (.ins C dx fs) ∧ Cls K C ∧ NoAttr K C f ∧ fs.lookup f = some v ∧ Z a C v := ⟨p, C, dx, fs, v, rfl, z1, z2, z3, z4, h⟩
theorem g_mt {p C dx : Addr} {fs : List (Str × V)} {m : Str} {Z : Prop} (z1 : H p = some (.ins C dx fs)) (z2 : fs.lookup m = none) (h : Z) : ∃ a dx fs, V.ref p = .ref a ∧ H a = some (.ins C dx fs) ∧ fs.lookup m = none ∧ Z := ⟨p, dx, fs, rfl, z1, z2, h⟩
theorem g_allP {W R G : Prop} (main : (W → R) → G) (rest : W → R) : G := main rest
theorem g_ite_refl {α : Type} [DecidableEq α] {x : α} {A B : Prop} (h : B) : if (!decide (x = x)) = true then A else B := by
  rw [show (!decide (x = x)) = false by simp]
  exact iteF h
theorem g_ite_reflT {α : Type} [DecidableEq α] {x : α} {A B : Prop} (h : A) : if decide (x = x) = true then A else B := by
  rw [show decide (x = x) = true by simp]
  exact iteT h
end
end NL
namespace NL
open PySem L2
/-! ### an own object that is called -/
/-- callWith of an instance: where the arguments are made it is an instance still -/
theorem callWith_inst {M : Model} {A : Around} {E : Value → Shared → Prop} {s : Shared} {pos : Pos} {x : Addr} {Q : Value → Shared → Prop} {args : List (Bool × Sem Value)} (hplain : args.any (·.1) = false)
    (h : wpAny M A (evalArgs (.ref x) true args []) (fun a s₁ => (∃ C ox od, ox.data = .plain ∧ PySem.W.InstAt s₁.heap x ox C od) ∧ wpAny M A (call (.ref x) a.pos a.kw) Q E s₁) E s) :
    wpAny M A (callWith pos (.ref x) [] args []) Q E s := by
  unfold callWith
  refine wpAny_bind (wpAny_holding (thn h fun a s1 hh => ?_))
  obtain ⟨⟨C, ox, od, hd, J⟩, hc⟩ := hh
  refine wpAny_bind (wpAny_standAt ?_)
  have hk := PySem.W.kco_keeper (M := M) J hd
  have hp : (args.any (·.1) || List.any (α := Option Str × Sem Value) [] (·.1.isNone)) = false := by rw [hplain]; rfl
  simp only [hp]
  refine wpAny_bind (hk.here ?_)
  have last : ∀ {t : Sem Value}, wpAny M A t Q E s1 → wpAny M A (do let r ← t; holding [r] point; pure r) Q E s1 := fun ht =>
    wpAny_bind (thn ht fun r s2 hr => wpAny_bind (wpAny_holding (wpAny_point (wpAny_pure hr))))
  exact last (wpAny_operateT hc)
section
variable {X : Cx} {k : Nat} {x : Str} {C : Addr} {e : Expr} {es : List Expr} {t : TA} {ta : TE} {p pos : Pos} {ps : List Str} {sp : Sp} {W : WX}
def tCallO (C : Addr) (sp : Sp) (E : L2.St → XK) (ta : TE) (t : TA) : TE := fun σ H Q => ta σ H fun x H1 => ∃ a dx fs, x = .ref a ∧ H1 a = some (.ins C dx fs) ∧ t σ H1 fun vs H2 => (∃ dx' fs', H2 a = some (.ins C dx' fs')) ∧ sp (x :: vs) H2 Q (E σ)
theorem g_callO {σ : L2.St} {H : Hp} {Q : VK} {E : L2.St → XK} (h : ta σ H fun x H1 => ∃ a dx fs, x = .ref a ∧ H1 a = some (.ins C dx fs) ∧ t σ H1 fun vs H2 => (∃ dx' fs', H2 a = some (.ins C dx' fs')) ∧ sp (x :: vs) H2 Q (E σ)) : tCallO C sp E ta t σ H Q := h
theorem g_co {H : Hp} {p dx : Addr} {fs : List (Str × V)} {Z : Addr → Prop} (z1 : H p = some (.ins C dx fs)) (h : Z p) : ∃ a dx fs, V.ref p = .ref a ∧ H a = some (.ins C dx fs) ∧ Z a := ⟨p, dx, fs, rfl, z1, h⟩
theorem g_ci {H : Hp} {p dx : Addr} {fs : List (Str × V)} {Z : Prop} (z1 : H p = some (.ins C dx fs)) (h : Z) : (∃ dx' fs', H p = some (.ins C dx' fs')) ∧ Z := ⟨⟨dx, fs, z1⟩, h⟩
end
theorem units1 {A : Around} (h : A.units + 64 < cLine) : A.units + 1 < cLine := by omega
/-! ### dicts -/
section
variable {X : Cx} {K : PySem.W.Frag} {σ : L2.St} {H : Hp} {Q : VK} {td ty tv : TE} {p : Addr} {kvs : List (Key × V)} {z : Str} {i : Int} {v : V}
theorem g_dget (h : td σ H fun x H1 => ty σ H1 fun y H2 => ∃ a v, x = .ref a ∧ DGet H2 a y (some v) ∧ Q v H2) : tDGet td ty σ H Q := h
theorem g_dgs {Z : V → Prop} (z1 : H p = some (.dK kvs)) (z2 : valV kvs (.inr z) = some v) (h : Z v) : ∃ a v, V.ref p = .ref a ∧ DGet H a (.str z) (some v) ∧ Z v :=
  ⟨p, v, rfl, .inl ⟨kvs, .inr z, .inl z1, rfl, z2.symm⟩, h⟩
theorem g_dnew (h : ∀ p, H p = none → Q (.ref p) (upd H p (.dK []))) : tDNewK σ H Q := h
theorem g_dput {nx : L2.St → Hp → Prop} {rt : VK} {bk ct : L2.St → Hp → Prop} (h : tv σ H fun v H1 => td σ H1 fun x H2 => ty σ H2 fun y H3 => ∃ a H4, x = .ref a ∧ DPut H3 a y v H4 ∧ nx σ H4) : sDPut td ty tv ⟨nx, rt, bk, ct⟩ σ H := h
theorem g_dps {Z : Hp → Prop} (z1 : H p = some (.dK kvs)) (z2 : kvs.length < sizeLine) (h : Z (upd H p (.dK (putK kvs (.inr z) v)))) : ∃ a H4, V.ref p = .ref a ∧ DPut H a (.str z) v H4 ∧ Z H4 :=
  ⟨p, _, rfl, .inl ⟨kvs, .inr z, z1, rfl, z2, rfl⟩, h⟩
end
end NL
namespace NL
open PySem L2
/-! ### edges: from a heap to the next; what lies in U may change, nothing goes -/
def Ed (U : List Addr) (H H' : Hp) : Prop := (∀ a o, a ∉ U → H a = some o → H' a = some o) ∧ ∀ a, H a ≠ none → H' a ≠ none
section
variable {U U' W : List Addr} {H H' H0 H1 H2 : Hp} {a b p : Addr} {o : HO}
theorem no0 {P : Addr → Prop} : ∀ a ∈ ([] : List Addr), P a := fun _ z => absurd z List.not_mem_nil
theorem Ed.refl : Ed U H H := ⟨fun _ _ _ e => e, fun _ h => h⟩
theorem Ed.free (e : Ed U H H') (h : H' a = none) : H a = none := by
  by_cases z : H a = none
  · exact z
  · exact absurd h (e.2 a z)
theorem Ed.tr (h1 : Ed U H0 H1) (h2 : Ed U' H1 H2) (hv : ∀ a ∈ U', a ∈ U ∨ H0 a = none) : Ed U H0 H2 :=
  ⟨fun a o n e => h2.1 a o (fun z => (hv a z).elim n (fun q => by rw [q] at e; cases e)) (h1.1 a o n e), fun a h => h2.2 a (h1.2 a h)⟩
theorem Ed.new (hp : H p = none) : Ed [] H (upd H p o) := ⟨fun a u _ e => by rw [upd_ne (ne_of_none e hp)]; exact e, fun a h => by
  rw [upd_ne (fun z : a = p => h (by rw [z]; exact hp))]; exact h⟩
theorem Ed.put : Ed [p] H (upd H p o) := ⟨fun a u n e => by rw [upd_ne (fun z => n (by rw [z]; exact List.mem_singleton.mpr rfl))]; exact e, fun a h => by
  by_cases z : a = p
  · rw [z, upd_same]; exact fun z => nomatch z
  · rw [upd_ne z]; exact h⟩
theorem Ed.same (s : Same H H') : Ed [] H H' := ⟨fun a o _ e => s a o e, fun a h => by
  cases e : H a with
  | none => exact absurd e h
  | some o => rw [s a o e]; exact fun z => nomatch z⟩
theorem Ed.same' (e : Ed [] H H') : Same H H' := fun a o q => e.1 a o (List.not_mem_nil) q
theorem Ed.get (e : Ed U H H') (n : a ∉ U) (h : H a = some o) : H' a = some o := e.1 a o n h
/-- all of W lie in H -/
def Wl (W : List Addr) (H : Hp) : Prop := ∀ a ∈ W, H a ≠ none
theorem Wl.nil : Wl [] H := no0
theorem Wl.cons (h : H a = some o) (r : Wl W H) : Wl (a :: W) H := fun c hc => by
  rcases List.mem_cons.mp hc with rfl | hc
  · rw [h]; exact fun z => nomatch z
  · exact r c hc
theorem Wl.ed (w : Wl W H) (e : Ed U H H') : Wl W H' := fun a h => e.2 a (w a h)
theorem Wl.not (w : Wl W H) (h : H a = none) : a ∉ W := fun z => w a z h
end
/-! ### data of one's own: every part lies outside of W -/
mutual
/-- no dict in it -/
def noD : PyData → Bool
  | .list ds => noDs ds
  | .tuple ds => noDs ds
  | .dict _ => false
  | .none => true
  | .bool _ => true
  | .int _ => true
  | .str _ => true
def noDs : List PyData → Bool
  | [] => true
  | d :: r => noD d && noDs r
end
theorem noDs_all : ∀ {ds : List PyData}, (∀ d ∈ ds, noD d = true) → noDs ds = true
  | [], _ => by simp [noDs]
  | d :: r, h => by simp [noDs, h d (List.mem_cons_self ..), noDs_all fun e he => h e (List.mem_cons_of_mem _ he)]
/-- data that can be compared -/
def Sh (d : PyData) : Prop := SeqAt.shaped d = true ∧ noD d = true
theorem Sh.int (i : Int) : Sh (.int i) := ⟨by simp [SeqAt.shaped, PyData.canLay0, PyData.depth], by simp [noD]⟩
theorem Sh.bool (i : Bool) : Sh (.bool i) := ⟨by simp [SeqAt.shaped, PyData.canLay0, PyData.depth], by simp [noD]⟩
theorem Sh.none : Sh .none := ⟨by simp [SeqAt.shaped, PyData.canLay0, PyData.depth], by simp [noD]⟩
theorem Sh.str {s : Str} (h : PyData.strOk s = true) : Sh (.str s) := ⟨by simp [SeqAt.shaped, PyData.canLay0, PyData.depth, h], by simp [noD]⟩
/-- data that can lie in a list or tuple of what is compared: n deep at most -/
def Sd (n : Nat) (d : PyData) : Prop := d.canLay0 = true ∧ d.depth ≤ n ∧ noD d = true
theorem Sd.mono {n m : Nat} {d : PyData} (h : Sd n d) (l : n ≤ m) : Sd m d := ⟨h.1, Nat.le_trans h.2.1 l, h.2.2⟩
theorem Sd.all {n : Nat} : ∀ {ds : List PyData}, (∀ d ∈ ds, Sd n d) → PyData.canLayAll0 ds = true ∧ PyData.depthAll ds ≤ n ∧ noDs ds = true
  | [], _ => ⟨rfl, by simp [PyData.depthAll], by simp [noDs]⟩
  | d :: r, h => by
    obtain ⟨h1, h2, h3⟩ := h d (List.mem_cons_self ..)
    obtain ⟨k1, k2, k3⟩ := Sd.all fun e he => h e (List.mem_cons_of_mem _ he)
    exact ⟨by simp [PyData.canLayAll0, h1, k1], by simp only [PyData.depthAll]; omega, by simp [noDs, h3, k3]⟩
theorem Sd.list {n : Nat} {ds : List PyData} (h : ∀ d ∈ ds, Sd n d) : Sd (n + 1) (.list ds) := by
  obtain ⟨k1, k2, k3⟩ := Sd.all h
  exact ⟨by simp only [PyData.canLay0, k1], by simp only [PyData.depth]; omega, by simp only [noD, k3]⟩
theorem Sd.tuple {n : Nat} {ds : List PyData} (h : ∀ d ∈ ds, Sd n d) : Sd (n + 1) (.tuple ds) := by
  obtain ⟨k1, k2, k3⟩ := Sd.all h
  exact ⟨by simp only [PyData.canLay0, k1], by simp only [PyData.depth]; omega, by simp only [noD, k3]⟩
theorem Sd.sh {n : Nat} {d : PyData} (h : Sd n d) (l : n ≤ 60) : Sh d := ⟨by
  simp only [SeqAt.shaped, h.1, Bool.true_and]
  have := h.2.1
  exact decide_eq_true (by omega), h.2.2⟩
theorem Sd.int (i : Int) : Sd 0 (.int i) := ⟨by simp [PyData.canLay0], by simp [PyData.depth], by simp [noD]⟩
theorem Sd.bool (i : Bool) : Sd 0 (.bool i) := ⟨by simp [PyData.canLay0], by simp [PyData.depth], by simp [noD]⟩
theorem Sd.none : Sd 0 .none := ⟨by simp [PyData.canLay0], by simp [PyData.depth], by simp [noD]⟩
theorem Sd.str {s : Str} (h : PyData.strOk s = true) : Sd 0 (.str s) := ⟨by simp [PyData.canLay0, h], by simp [PyData.depth], by simp [noD]⟩
theorem Sd.map {α : Type} {n : Nat} {f : α → PyData} {xs : List α} (h : ∀ x ∈ xs, Sd n (f x)) : ∀ d ∈ xs.map f, Sd n d := fun d hd => by
  obtain ⟨x, hx, rfl⟩ := List.mem_map.mp hd
  exact h x hx
theorem Sd.nil {n : Nat} : ∀ d ∈ ([] : List PyData), Sd n d := fun d hd => absurd hd List.not_mem_nil
theorem Sd.cons {n : Nat} {d : PyData} {r : List PyData} (h : Sd n d) (k : ∀ d ∈ r, Sd n d) : ∀ e ∈ d :: r, Sd n e := fun e he => by
  rcases List.mem_cons.mp he with rfl | he
  · exact h
  · exact k e he
/-- an object of which the data tell the place alone -/
abbrev ob (a : Addr) : PyData := .dict [(.int (a : Nat), .none)]
mutual
inductive Df (W : List Addr) (H : Hp) : L2.V → PyData → Prop
  | non : Df W H .non .none
  | bl (b : Bool) : Df W H (.bl b) (.bool b)
  | int (i : Int) : Df W H (.int i) (.int i)
  | str (s : Str) : Df W H (.str s) (.str s)
  | obj {a : Addr} : a ∉ W → H a ≠ none → Df W H (.ref a) (ob a)
  | lst {a : Addr} {xs : List V} {ds : List PyData} : a ∉ W → H a = some (.lst xs) → DfAll W H xs ds → Df W H (.ref a) (.list ds)
  | tup {a : Addr} {xs : List V} {ds : List PyData} : a ∉ W → H a = some (.tup xs) → DfAll W H xs ds → Df W H (.ref a) (.tuple ds)
inductive DfAll (W : List Addr) (H : Hp) : List L2.V → List PyData → Prop
  | nil : DfAll W H [] []
  | cons {v : V} {d : PyData} {vs : List V} {ds : List PyData} : Df W H v d → DfAll W H vs ds → DfAll W H (v :: vs) (d :: ds)
end
section
variable {U W W' : List Addr} {H H' : Hp} {v : V} {d : PyData} {vs : List L2.V} {ds : List PyData} {K : PySem.W.Frag} {p a : Addr}
mutual
theorem Df.ed (e : Ed U H H') (hv : ∀ a ∈ U, a ∈ W) : ∀ {v : L2.V} {d : PyData}, Df W H v d → Df W H' v d
  | _, _, .non => .non
  | _, _, .bl b => .bl b
  | _, _, .int b => .int b
  | _, _, .str b => .str b
  | _, _, .obj n h => .obj n (e.2 _ h)
  | _, _, .lst n h r => .lst n (e.1 _ _ (fun z => n (hv _ z)) h) (DfAll.ed e hv r)
  | _, _, .tup n h r => .tup n (e.1 _ _ (fun z => n (hv _ z)) h) (DfAll.ed e hv r)
theorem DfAll.ed (e : Ed U H H') (hv : ∀ a ∈ U, a ∈ W) : ∀ {vs : List L2.V} {ds : List PyData}, DfAll W H vs ds → DfAll W H' vs ds
  | _, _, .nil => .nil
  | _, _, .cons h r => .cons (Df.ed e hv h) (DfAll.ed e hv r)
end
mutual
theorem Df.weak (hv : ∀ a ∈ W', a ∈ W) : ∀ {v : L2.V} {d : PyData}, Df W H v d → Df W' H v d
  | _, _, .non => .non
  | _, _, .bl b => .bl b
  | _, _, .int b => .int b
  | _, _, .str b => .str b
  | _, _, .obj n h => .obj (fun z => n (hv _ z)) h
  | _, _, .lst n h r => .lst (fun z => n (hv _ z)) h (DfAll.weak hv r)
  | _, _, .tup n h r => .tup (fun z => n (hv _ z)) h (DfAll.weak hv r)
theorem DfAll.weak (hv : ∀ a ∈ W', a ∈ W) : ∀ {vs : List L2.V} {ds : List PyData}, DfAll W H vs ds → DfAll W' H vs ds
  | _, _, .nil => .nil
  | _, _, .cons h r => .cons (Df.weak hv h) (DfAll.weak hv r)
end
mutual
theorem Df.more (hp : H p = none) : ∀ {v : L2.V} {d : PyData}, Df W H v d → Df (p :: W) H v d
  | _, _, .non => .non
  | _, _, .bl b => .bl b
  | _, _, .int b => .int b
  | _, _, .str b => .str b
  | _, _, .obj n h => .obj (fun z => (List.mem_cons.mp z).elim (fun q => h (by rw [q]; exact hp)) n) h
  | _, _, .lst n h r => .lst (fun z => (List.mem_cons.mp z).elim (ne_of_none h hp) n) h (DfAll.more hp r)
  | _, _, .tup n h r => .tup (fun z => (List.mem_cons.mp z).elim (ne_of_none h hp) n) h (DfAll.more hp r)
theorem DfAll.more (hp : H p = none) : ∀ {vs : List L2.V} {ds : List PyData}, DfAll W H vs ds → DfAll (p :: W) H vs ds
  | _, _, .nil => .nil
  | _, _, .cons h r => .cons (Df.more hp h) (DfAll.more hp r)
end
mutual
theorem Df.dp : ∀ {v : L2.V} {d : PyData}, Df W H v d → noD d = true → Dp K H v d
  | _, _, .non, _ => .non
  | _, _, .bl b, _ => .bl b
  | _, _, .int b, _ => .int b
  | _, _, .str b, _ => .str b
  | _, _, .obj _ _, h => by simp [noD] at h
  | _, _, .lst _ h r, q => .lst (SqL.of h) (DfAll.dp r (by simpa [noD] using q))
  | _, _, .tup _ h r, q => .tup (SqT.of h) (DfAll.dp r (by simpa [noD] using q))
theorem DfAll.dp : ∀ {vs : List L2.V} {ds : List PyData}, DfAll W H vs ds → noDs ds = true → DpAll K H vs ds
  | _, _, .nil, _ => .nil
  | _, _, .cons h r, q => .cons (Df.dp h (by simp [noDs] at q; exact q.1)) (DfAll.dp r (by simp [noDs] at q; exact q.2))
end
theorem DfAll.length : ∀ {vs : List L2.V} {ds : List PyData}, DfAll W H vs ds → vs.length = ds.length
  | _, _, .nil => rfl
  | _, _, .cons _ r => by rw [List.length_cons, List.length_cons, DfAll.length r]
theorem DfAll.at : ∀ {vs : List L2.V} {ds : List PyData} {i : Nat} {d : PyData}, DfAll W H vs ds → ds[i]? = some d → ∃ v, vs[i]? = some v ∧ Df W H v d
  | _, _, _, _, .nil, e => by simp at e
  | _, _, 0, _, .cons h _, e => by simp at e; subst e; exact ⟨_, rfl, h⟩
  | _, _, i + 1, _, .cons _ r, e => by
    obtain ⟨v, h1, h2⟩ := DfAll.at r (i := i) (by simpa using e)
    exact ⟨v, by simpa using h1, h2⟩
theorem DfAll.app : ∀ {vs ws : List L2.V} {ds es : List PyData}, DfAll W H vs ds → DfAll W H ws es → DfAll W H (vs ++ ws) (ds ++ es)
  | _, _, _, _, .nil, h => h
  | _, _, _, _, .cons h r, q => .cons h (DfAll.app r q)
theorem DfAll.snoc {vs : List L2.V} {ds : List PyData} (h : DfAll W H vs ds) (q : Df W H v d) : DfAll W H (vs ++ [v]) (ds ++ [d]) := h.app (.cons q .nil)
theorem DfAll.drop : ∀ {vs : List L2.V} {ds : List PyData} (n : Nat), DfAll W H vs ds → DfAll W H (vs.drop n) (ds.drop n)
  | _, _, 0, h => h
  | _, _, _ + 1, .nil => .nil
  | _, _, n + 1, .cons _ r => DfAll.drop n r
theorem DfAll.take : ∀ {vs : List L2.V} {ds : List PyData} (n : Nat), DfAll W H vs ds → DfAll W H (vs.take n) (ds.take n)
  | _, _, 0, _ => .nil
  | _, _, _ + 1, .nil => .nil
  | _, _, n + 1, .cons h r => .cons h (DfAll.take n r)
theorem DfAll.strs (xs : List Str) : DfAll W H (xs.map L2.V.str) (xs.map PyData.str) := by
  induction xs with
  | nil => exact .nil
  | cons x r ih => exact .cons (.str x) ih
theorem DfAll.ints (xs : List Int) : DfAll W H (xs.map L2.V.int) (xs.map PyData.int) := by
  induction xs with
  | nil => exact .nil
  | cons x r ih => exact .cons (.int x) ih
theorem DfAll.strs' : ∀ {xs : List Str} {vs : List L2.V}, DfAll W H vs (xs.map PyData.str) → vs = xs.map L2.V.str
  | [], _, .nil => rfl
  | x :: r, _, .cons (.str _) h => by rw [DfAll.strs' h]; rfl
theorem Df.strL {xs : List Str} (h : Df W H (.ref p) (.list (xs.map PyData.str))) : p ∉ W ∧ H p = some (.lst (xs.map L2.V.str)) := by
  cases h with
  | lst n h r => rw [DfAll.strs' r] at h; exact ⟨n, h⟩
theorem Df.ofInts {xs : List Int} (n : p ∉ W) (h : H p = some (.lst (xs.map L2.V.int))) : Df W H (.ref p) (.list (xs.map PyData.int)) := .lst n h (.ints xs)
theorem Df.cells (h : Df W H (.ref p) (.list ds)) : ∃ xs, p ∉ W ∧ H p = some (.lst xs) ∧ DfAll W H xs ds := by
  cases h with
  | lst n h r => exact ⟨_, n, h, r⟩
theorem Df.cellsT (h : Df W H (.ref p) (.tuple ds)) : ∃ xs, p ∉ W ∧ H p = some (.tup xs) ∧ DfAll W H xs ds := by
  cases h with
  | tup n h r => exact ⟨_, n, h, r⟩
theorem Df.alive (h : Df W H (.ref p) d) : H p ≠ none := by
  cases h with
  | obj _ h => exact h
  | lst _ h _ => rw [h]; exact fun z => nomatch z
  | tup _ h _ => rw [h]; exact fun z => nomatch z
/-- a list that is being built at p -/
def Bld (W : List Addr) (H : Hp) (p : Addr) (ds : List PyData) : Prop := p ∉ W ∧ ∃ xs, H p = some (.lst xs) ∧ DfAll (p :: W) H xs ds
theorem Bld.done (h : Bld W H p ds) : Df W H (.ref p) (.list ds) := by
  obtain ⟨n, xs, h, r⟩ := h
  exact .lst n h (r.weak fun a z => List.mem_cons_of_mem _ z)
theorem Bld.ed (h : Bld W H p ds) (e : Ed U H H') (hv : ∀ a ∈ U, a ∈ W) : Bld W H' p ds := by
  obtain ⟨n, xs, h, r⟩ := h
  exact ⟨n, xs, e.1 _ _ (fun z => n (hv _ z)) h, r.ed e fun a z => List.mem_cons_of_mem _ (hv a z)⟩
theorem Bld.alive (h : Bld W H p ds) : H p ≠ none := by
  obtain ⟨n, xs, h, r⟩ := h
  rw [h]; exact fun z => nomatch z
end
/-! ### steps -/
section
variable {U W W' : List Addr} {H H' : Hp} {Q : VK} {v x y : L2.V} {d e : PyData} {vs : List L2.V} {ds es : List PyData} {K : PySem.W.Frag} {p q : Addr} {i : Int}
/-- a list display, a tuple display: the heap behind it by an edge -/
theorem g_dl (h : DfAll W H vs ds) (w : Wl W H) (z : vs.length ≤ sizeLine) (k : ∀ p H', H p = none → Ed [] H H' → Df W H' (.ref p) (.list ds) → Q (.ref p) H') : vs.length ≤ sizeLine ∧ ∀ p, H p = none → Q (.ref p) (upd H p (.lst vs)) :=
  ⟨z, fun p hp => k p _ hp (Ed.new hp) (.lst (w.not hp) upd_same (h.ed (Ed.new hp) no0))⟩
theorem g_dt (h : DfAll W H vs ds) (w : Wl W H) (z : vs.length ≤ sizeLine) (k : ∀ p H', H p = none → Ed [] H H' → Df W H' (.ref p) (.tuple ds) → Q (.ref p) H') : vs.length ≤ sizeLine ∧ ∀ p, H p = none → Q (.ref p) (upd H p (.tup vs)) :=
  ⟨z, fun p hp => k p _ hp (Ed.new hp) (.tup (w.not hp) upd_same (h.ed (Ed.new hp) no0))⟩
theorem g_lend (h : Df W H (.ref p) (.list ds)) (k : Q (.int ds.length) H) : dLen K [.ref p] H Q := by
  obtain ⟨xs, n, hp, r⟩ := h.cells
  exact g_len_l (Or.inl (SqL.of hp)) (by rw [r.length]; exact k)
theorem g_eqd (h1 : Df W H x d) (h2 : Df W' H y e) (s1 : Sh d) (s2 : Sh e) (k : Q (.bl (PyData.eqv d e)) H) : dEq K x y H Q := .inr ⟨d, e, h1.dp s1.2, h2.dp s2.2, s1.1, s2.1, k⟩
theorem g_inds {t : Str} {ns : List Str} (h : Df W H (.ref p) (.list (ns.map PyData.str))) (k : Q (.bl (decide (t ∈ ns))) H) : dIn K (.str t) (.ref p) H Q := g_inLs (Or.inl (SqL.of h.strL.2)) k
theorem g_ninds {t : Str} {ns : List Str} (h : Df W H (.ref p) (.list (ns.map PyData.str))) (k : Q (.bl (!decide (t ∈ ns))) H) : dNotIn K (.str t) (.ref p) H Q := g_ninLs (Or.inl (SqL.of h.strL.2)) k
theorem g_iLd {Z : Addr → Prop} (z : Df W H (.ref p) (.list ds)) (h : Z p) : ∃ a, L2.V.ref p = .ref a ∧ (∃ xs, SqL K H a xs) ∧ Z a := by
  obtain ⟨xs, n, hp, r⟩ := z.cells
  exact ⟨p, rfl, ⟨xs, SqL.of hp⟩, h⟩
theorem g_iEd {Z : Addr → Prop} (z : Df W H (.ref p) (.list ds)) (h : Z p) : ∃ a xs, [L2.V.ref p] = [.ref a] ∧ SqL K H a xs ∧ Z a := by
  obtain ⟨xs, n, hp, r⟩ := z.cells
  exact ⟨p, xs, rfl, SqL.of hp, h⟩
end
section
variable {W : List Addr} {H H' : Hp} {p : Addr} {vs : List L2.V} {ds : List PyData} {ts : List Str}
end
/-! ### loops over data -/
section
variable {U W : List Addr} {H H' : Hp} {σ : L2.St} {ds : List PyData} {K : PySem.W.Frag} {p : Addr} {g : TG} {tb : TS} {nx : L2.St → Hp → Prop} {rt : VK} {bk ct : L2.St → Hp → Prop}
variable {tt : TT} {te : TE} {ws : List Nat} {D : Addr} {Qd : Hp → Prop}
end
end NL
namespace NL
open PySem L2
/-- the bag of draws at b: two ints -/
def Bag (H : Hp) (b : Addr) : Prop := ∃ x y : Int, H b = some (.lst [.int x, .int y])
theorem Bag.at {H : Hp} {b : Addr} {x y : Int} : Bag (upd H b (.lst [.int x, .int y])) b := ⟨x, y, upd_same⟩
theorem Bag.new {H : Hp} {b p : Addr} {o : HO} (h : Bag H b) (n : H p = none) : Bag (upd H p o) b := by
  obtain ⟨x, y, e⟩ := h
  exact ⟨x, y, by rw [upd_ne (ne_of_none e n)]; exact e⟩
theorem Bag.put {H : Hp} {b p : Addr} {o : HO} (h : Bag H b) (n : b ≠ p) : Bag (upd H p o) b := by
  obtain ⟨x, y, e⟩ := h
  exact ⟨x, y, by rw [upd_ne n]; exact e⟩
theorem Bag.ne {H : Hp} {b p : Addr} (h : Bag H b) (n : H p = none) : p ≠ b := by
  obtain ⟨x, y, e⟩ := h
  exact (ne_of_none e n).symm
section
variable {U W : List Addr} {H H' : Hp} {b p a : Addr} {ds es : List PyData} {d : PyData} {K : PySem.W.Frag}
theorem Bag.ed (h : Bag H b) (e : Ed U H H') (n : b ∉ U) : Bag H' b := by
  obtain ⟨x, y, q⟩ := h
  exact ⟨x, y, e.1 _ _ n q⟩
theorem Bag.alive (h : Bag H b) : H b ≠ none := by
  obtain ⟨x, y, q⟩ := h
  rw [q]; exact fun z => nomatch z
theorem sub1 (h : b ∈ W) : ∀ a ∈ [b], a ∈ W := fun a z => by rw [List.mem_singleton.mp z]; exact h
theorem subr : ∀ a ∈ W, a ∈ W := fun _ z => z
theorem subc {U : List Addr} (h : ∀ a ∈ U, a ∈ W) : ∀ a ∈ U, a ∈ b :: W := fun a z => List.mem_cons_of_mem _ (h a z)
theorem edv1 (h : b ∈ U ∨ H b = none) : ∀ a ∈ [b], a ∈ U ∨ H a = none := fun a z => by rw [List.mem_singleton.mp z]; exact h
theorem edvl {V : List Addr} (h : ∀ a ∈ V, a ∈ U) : ∀ a ∈ V, a ∈ U ∨ H a = none := fun a z => .inl (h a z)
theorem Wl.cons' (h : H a ≠ none) (r : Wl W H) : Wl (a :: W) H := fun c hc => by
  rcases List.mem_cons.mp hc with rfl | hc
  · exact h
  · exact r c hc
theorem Wl.tail (h : Wl (a :: W) H) : Wl W H := fun c hc => h c (List.mem_cons_of_mem _ hc)
theorem nb_bld (h : Bld W H p ds) (hb : b ∈ W) : b ∉ [p] := fun z => h.1 (by rw [← List.mem_singleton.mp z]; exact hb)
theorem Ed.weak {V : List Addr} (e : Ed U H H') (h : ∀ a ∈ U, a ∈ V) : Ed V H H' := ⟨fun a o n q => e.1 a o (fun z => n (h a z)) q, e.2⟩
end
section
variable {U W : List Addr} {H0 H1 H2 : Hp} {p q b : Addr} {v : V} {d : PyData} {ds : List PyData}
theorem Df.via (e : Ed [p] H1 H2) (hp : H0 p = none) (ed : Ed W H0 H2) (h : Df W H0 v d) : Df W H2 v d := h.ed ed subr
theorem Bld.via (e : Ed [p] H1 H2) (hp : H0 p = none) (ed : Ed W H0 H2) (h : Bld W H0 q ds) : Bld W H2 q ds := h.ed ed subr
theorem Bag.via (e : Ed [p] H1 H2) (hp : H0 p = none) (ed : Ed [] H0 H2) (h : Bag H0 b) : Bag H2 b := h.ed ed List.not_mem_nil
end
/-- what lies in H lies in H' -/
def Al (H H' : Hp) : Prop := ∀ a, H a ≠ none → H' a ≠ none
theorem Al.refl {H : Hp} : Al H H := fun _ h => h
theorem Al.of {U : List Addr} {H0 H1 H2 : Hp} (e : Ed U H1 H2) (h : Al H0 H1) : Al H0 H2 := fun a z => e.2 a (h a z)
theorem Al.free {H H' : Hp} {a : Addr} (e : Al H H') (h : H' a = none) : H a = none := by
  by_cases z : H a = none
  · exact z
  · exact absurd h (e a z)
theorem Sh.strs {xs : List Str} (h : ∀ x ∈ xs, PyData.strOk x = true) : Sh (.list (xs.map PyData.str)) := (Sd.list (n := 0) (Sd.map fun x hx => Sd.str (h x hx))).sh (by decide)
theorem Sh.nil : Sh (.list []) := (Sd.list (n := 0) Sd.nil).sh (by decide)
theorem Sh.ints {xs : List Int} : Sh (.list (xs.map PyData.int)) := (Sd.list (n := 0) (Sd.map fun x hx => Sd.int x)).sh (by decide)
theorem g_tyB {K : PySem.W.Frag} {W : List Addr} {H : Hp} {p : Addr} {ds : List PyData} {R : Prop} (h : Bld W H p ds) (k : R) : tyV K "list" (.ref p) H ∧ R := by
  obtain ⟨_, xs, h, _⟩ := h
  exact g_tyL (SqL.of h) k
theorem g_tyD {K : PySem.W.Frag} {W : List Addr} {H : Hp} {p : Addr} {ds : List PyData} {R : Prop} (h : Df W H (.ref p) (.list ds)) (k : R) : tyV K "list" (.ref p) H ∧ R := by
  obtain ⟨xs, _, h, _⟩ := h.cells
  exact g_tyL (SqL.of h) k
/-! ### more rules -/
section
variable {X : Cx} (K : PySem.W.Frag) {e e2 : Expr} {ta : TA} {p pos tpos : Pos} {elts : List Expr} {kk : Nat}
end
section
variable {U V W : List Addr} {H H' : Hp} {σ : L2.St} {ds es : List PyData} {K : PySem.W.Frag} {p q : Addr} {Q : VK}
theorem g_iZ {ta : TA} {R : It → Hp → Prop} (h : ta σ H fun vs H1 => ∃ a b xs ys, vs = [.ref a, .ref b] ∧ SqL K H1 a xs ∧ SqL K H1 b ys ∧ R (Itz K a b) H1) : iZip K ta σ H R := h
theorem g_iZd {Z : Addr → Addr → Prop} (z1 : Df W H (.ref p) (.list ds)) (z2 : Df W H (.ref q) (.list es)) (h : Z p q) : ∃ a b xs ys, [L2.V.ref p, L2.V.ref q] = [.ref a, .ref b] ∧ SqL K H a xs ∧ SqL K H b ys ∧ Z a b := by
  obtain ⟨xs, n, hp, r⟩ := z1.cells
  obtain ⟨ys, m, hq, t⟩ := z2.cells
  exact ⟨p, q, xs, ys, rfl, SqL.of hp, SqL.of hq, h⟩
variable {g : TG} {tb : TS} {nx : L2.St → Hp → Prop} {rt : VK} {bk ct : L2.St → Hp → Prop}
end
/-! ### a cut: what comes behind an if, once -/
def tSeqC (t u : TS) : TS := tSeq t u
theorem pss_cut {X : Cx} {s : Stmt} {r : List Stmt} {t u : TS} (h1 : PS X s t) (h2 : PSs X r u) : PSs X (s :: r) (tSeqC t u) := pss_cons h1 h2
theorem g_cut {t u : TS} {nx : L2.St → Hp → Prop} {rt : VK} {bk ct : L2.St → Hp → Prop} {σ : L2.St} {H : Hp} (I : L2.St → Hp → Prop) (h1 : ∀ R : L2.St → Hp → Prop, (∀ σ' H', I σ' H' → R σ' H') → t ⟨R, rt, bk, ct⟩ σ H) (h2 : ∀ σ' H', I σ' H' → u ⟨nx, rt, bk, ct⟩ σ' H') : tSeqC t u ⟨nx, rt, bk, ct⟩ σ H := h1 _ h2
theorem g_par {i j : Nat} {ta : TA} {nx : L2.St → Hp → Prop} {rt : VK} {bk ct : L2.St → Hp → Prop} {σ : L2.St} {H : Hp} (h : ta σ H fun vs H1 => ∃ v w, vs = [v, w] ∧ gName i v σ H1 fun σ1 H2 => gName j w σ1 H2 nx) : tPar i j ta ⟨nx, rt, bk, ct⟩ σ H := h
theorem g_par2 {v w : V} {Z : V → V → Prop} (h : Z v w) : ∃ a b, [v, w] = [a, b] ∧ Z a b := ⟨v, w, rfl, h⟩
theorem g_iTd {K : PySem.W.Frag} {W : List Addr} {H : Hp} {p : Addr} {ds : List PyData} {Z : Addr → Prop} (z : Df W H (.ref p) (.tuple ds)) (h : Z p) : ∃ a, V.ref p = .ref a ∧ (∃ xs, SqT K H a xs) ∧ Z a := by
  obtain ⟨xs, n, hp, r⟩ := z.cellsT
  exact ⟨p, rfl, ⟨xs, SqT.of hp⟩, h⟩
/-! ### dicts of texts -/
section
variable {U W : List Addr} {H H' : Hp} {p : Addr} {K : PySem.W.Frag} {Q : VK}
/-- the dict kvs lies at p, p is not in W -/
def Dk (W : List Addr) (H : Hp) (p : Addr) (kvs : List (Key × V)) : Prop := p ∉ W ∧ H p = some (.dK kvs)
theorem Dk.ed {kvs : List (Key × V)} (h : Dk W H p kvs) (e : Ed U H H') (hv : ∀ a ∈ U, a ∈ W) : Dk W H' p kvs := ⟨h.1, e.1 _ _ (fun z => h.1 (hv _ z)) h.2⟩
theorem Dk.more {kvs : List (Key × V)} {q : Addr} (hq : H q = none) (h : Dk W H p kvs) : Dk (q :: W) H p kvs := ⟨fun z => (List.mem_cons.mp z).elim (ne_of_none h.2 hq) h.1, h.2⟩
theorem Dk.via {kvs : List (Key × V)} {H0 H1 H2 : Hp} {q : Addr} (e : Ed [q] H1 H2) (hq : H0 q = none) (ed : Ed W H0 H2) (h : Dk W H0 p kvs) : Dk W H2 p kvs := h.ed ed subr
theorem Dk.df {kvs : List (Key × V)} (h : Dk W H p kvs) : Df W H (.ref p) (ob p) := .obj h.1 (by rw [h.2]; exact fun z => nomatch z)
theorem Dk.alive {kvs : List (Key × V)} (h : Dk W H p kvs) : H p ≠ none := by rw [h.2]; exact fun z => nomatch z
theorem g_disp {trs : List (TE × TE)} {σ : L2.St} (h : ∀ p H0, H p = none → Ed [] H H0 → H0 p = some (.dK []) → tPairs trs σ H0 fun ps H2 => H2 p = some (.dK []) ∧ ∃ kvs : List (Key × V), ps = kvs.map (fun kv => (kV kv.1, kv.2)) ∧ kvs.length ≤ 15 ∧ Q (.ref p) (upd H2 p (.dK (mergeK [] kvs)))) : tDisp trs σ H Q :=
  fun p hp => h p _ hp (Ed.new hp) upd_same
theorem g_pr0 {σ : L2.St} {QP : List (V × V) → Hp → Prop} (h : QP [] H) : tPairs [] σ H QP := h
theorem g_pr {σ : L2.St} {tk tv : TE} {trs : List (TE × TE)} {QP : List (V × V) → Hp → Prop} (h : tk σ H fun x H1 => tv σ H1 fun y H2 => tPairs trs σ H2 fun ps H3 => QP ((x, y) :: ps) H3) : tPairs ((tk, tv) :: trs) σ H QP := h
theorem g_din {σ : L2.St} {td ty : TE} (h : ty σ H fun y H1 => td σ H1 fun x H2 => ∃ a o, x = .ref a ∧ DGet H2 a y o ∧ Q (.bl o.isSome) H2) : tDIn ty td σ H Q := h
theorem g_dnin {σ : L2.St} {td ty : TE} (h : ty σ H fun y H1 => td σ H1 fun x H2 => ∃ a o, x = .ref a ∧ DGet H2 a y o ∧ Q (.bl (!o.isSome)) H2) : tDNotIn ty td σ H Q := h
theorem g_dget2 {σ : L2.St} {td ty tx : TE} (h : td σ H fun x H1 => ∃ a, x = .ref a ∧ IsD H1 a ∧ ty σ H1 fun y H2 => tx σ H2 fun z H3 => ∃ o, DGet H3 a y o ∧ Q (o.getD z) H3) : tDGet2 td ty tx σ H Q := h
theorem g_isd {kvs : List (Key × V)} {Z : Addr → Prop} (z1 : Dk W H p kvs) (h : Z p) : ∃ a, V.ref p = .ref a ∧ IsD H a ∧ Z a := ⟨p, rfl, .inl ⟨kvs, .inl z1.2⟩, h⟩
theorem g_dgd {kvs : List (Key × V)} {z : Str} {v : V} {Z : V → Prop} (z1 : Dk W H p kvs) (z2 : valV kvs (.inr z) = some v) (h : Z v) : ∃ a v, V.ref p = .ref a ∧ DGet H a (.str z) (some v) ∧ Z v := g_dgs z1.2 z2 h
end
end NL
namespace NL
open PySem L2
/-! ### a, b, *rest = a list -/
section
variable {X : Cx} {pos p : Pos}
end
/-! ### a class called by a local name -/
section
variable {X : Cx} {k i : Nat} {x m : Str} {C : Addr} {e o : Expr} {es : List Expr} {t : TA} {ta : TE} {p pos apos : Pos} {ps : List Str} {sp : Sp} {W : WX}
def tMakeL (i : Nat) (C : Addr) (sp : Sp) (E : L2.St → XK) (t : TA) : TE := fun σ H Q => σ[i]? = some (some (.ref C)) ∧ tMakeS C sp E t σ H Q
theorem g_makeL {E : L2.St → XK} {σ : L2.St} {H : Hp} {Q : VK} (e1 : σ[i]? = some (some (.ref C))) (h : tMakeS C sp E t σ H Q) : tMakeL i C sp E t σ H Q := ⟨e1, h⟩
/-! ### classmethods -/
structure CmC (P : Program) (w : World) (K : PySem.W.Frag) (mg : Str → Option Value) (base : Heap) (k : Nat) (C : Addr) (m : Str) (ps : List Str) (sp : Sp) : Prop where
  rd : ClX.CRead K C (.type "type")
  fn : ∃ (p g : Addr) (fd : FuncData), ClX.CMet K C (.type "type") m p g ∧ Binds K fd ps [] ∧ FnOk P w K mg base (L2.CX P w) k g fd ps sp
def tCM (C : Addr) (sp : Sp) (E : L2.St → XK) (ta : TE) (t : TA) : TE := fun σ H Q => ta σ H fun x H1 => x = .ref C ∧ t σ H1 fun vs H2 => sp (.ref C :: vs) H2 Q (E σ)
theorem g_cm {E : L2.St → XK} {σ : L2.St} {H : Hp} {Q : VK} (h : ta σ H fun x H1 => x = .ref C ∧ t σ H1 fun vs H2 => sp (.ref C :: vs) H2 Q (E σ)) : tCM C sp E ta t σ H Q := h
end
/-! ### the facts of classmethods; a hook that knows the interpreter's statics -/
inductive Fy where
  | crd (x : Str) | cm (x m : Str)
def Fy.ok (K : PySem.W.Frag) : Fy → Bool
  | .crd x => PySem.W.readsIn K (He.ga K x) (.type "type")
  | .cm x m => He5.wrapB K (He.ga K x) "classmethod" "classmethod.__get__" m && PySem.W.fnIn K (He5.wf K (He.ga K x) "classmethod" m)
def fyB (l : List Fy) (K : PySem.W.Frag) : Bool := l.all fun f => f.ok K
def obsN0 (fn : List He5.DefA) (ex : PySem.W.Frag → Bool) (K : PySem.W.Frag) : He.AlD := (ex K && fn.all fun d => d.ok K, fn.map fun d => He5.fnA K (d.at_ K))
def SaysN (fn : List He5.DefA) (ex : PySem.W.Frag → Bool) (K : PySem.W.Frag) : Prop := obsN0 fn ex K = He5.valA fn
theorem SaysN.more {fn : List He5.DefA} {ex : PySem.W.Frag → Bool} {K : PySem.W.Frag} (c : SaysN fn ex K) : ex K = true := by
  have q : (ex K && fn.all fun d => d.ok K) = true := congrArg (fun z : He.AlD => z.1) c
  rw [Bool.and_eq_true] at q
  exact q.1
theorem SaysN.def_ {fn : List He5.DefA} {ex : PySem.W.Frag → Bool} {K : PySem.W.Frag} (c : SaysN fn ex K) (i : Nat) {d : He5.DefA} (h : fn[i]? = some d := by rfl) : ∃ fd, L2.FunD K d.name d.qual d.params d.body d.scope (d.dvs K) (d.kws K) (d.at_ K) fd := by
  have q : (ex K && fn.all fun d => d.ok K) = true := congrArg (fun z : He.AlD => z.1) c
  rw [Bool.and_eq_true] at q
  have e : fn.map (fun d => He5.fnA K (d.at_ K)) = fn.map He5.DefA.val := congrArg (fun z : He.AlD => z.2) c
  have e2 : (fn.map fun d => He5.fnA K (d.at_ K))[i]? = (fn.map He5.DefA.val)[i]? := by rw [e]
  rw [List.getElem?_map, List.getElem?_map, h] at e2
  exact He5.DefA.funD (Option.some.inj e2) (List.all_eq_true.mp q.2 d (List.mem_of_getElem? h))
/-! ### list(text), tuple(x), dict(d), a, b, c = x, y, z -/
def sgn (x : Str) : List Str := x.cps.toList.map fun c => (⟨#[c]⟩ : Str)
theorem g_par3 {i j l : Nat} {ta : TA} {nx : L2.St → Hp → Prop} {rt : VK} {bk ct : L2.St → Hp → Prop} {σ : L2.St} {H : Hp} (h : ta σ H fun vs H1 => ∃ u v w, vs = [u, v, w] ∧ gName i u σ H1 fun σ1 H2 => gName j v σ1 H2 fun σ2 H3 => gName l w σ2 H3 nx) : tPar3 i j l ta ⟨nx, rt, bk, ct⟩ σ H := h
theorem g_par33 {u v w : V} {Z : V → V → V → Prop} (h : Z u v w) : ∃ a b c, [u, v, w] = [a, b, c] ∧ Z a b c := ⟨u, v, w, rfl, h⟩
theorem g_star {K : PySem.W.Frag} {te : TE} {t : TA} {σ : L2.St} {H : Hp} {QA : List V → Hp → Prop} (h : te σ H fun x H1 => ∃ p xs, x = V.ref p ∧ (SqT K H1 p xs ∨ SqL K H1 p xs) ∧ t σ H1 fun ys H2 => QA (xs ++ ys) H2) : StX.tStar K te t σ H QA := h
end NL
namespace NQ
open PySem L2
/-! ### trees: what a value stands for, without addresses -/
inductive T where
  | non | bl (b : Bool) | int (i : Int) | str (s : Str)
  | lst (ts : List T) | tup (ts : List T) | ctup (ts : List T) | clst (ts : List T)
  | dic (ks : List Key) (ts : List T) | dit (ks : List (List Key)) (ts : List T)
  | ins (c : Str) (fs : List Str) (ts : List T)
  | gl (x : Str) | ty (n : String)
def T.kids : T → List T
  | .lst ts => ts | .tup ts => ts
  | .dic _ ts => ts | .dit _ ts => ts | .ins _ _ ts => ts
  | _ => []
def T.sv : T → V
  | .bl b => .bl b | .int i => .int i | .str s => .str s | .ty n => .ty n
  | _ => .non
/-- a flat scalar -/
def T.isS : T → Bool
  | .non => true | .bl _ => true | .int _ => true | .str s => PyData.strOk s | _ => false
def Cell (K : PySem.W.Frag) (H : Hp) (a : Addr) (t : T) (vs : List V) : Prop := match t with
  | .lst _ => H a = some (.lst vs)
  | .tup _ => H a = some (.tup vs)
  | .dic ks _ => ks.length = vs.length ∧ H a = some (.dK (ks.zip vs))
  | .dit ks _ => ks.length = vs.length ∧ H a = some (.dT (ks.zip vs))
  | .ins c fs _ => fs.length = vs.length ∧ ∃ dx, H a = some (.ins (He.ga K c) dx (fs.zip vs))
  | _ => False
def CellR (K : PySem.W.Frag) (H : Hp) (a : Addr) (t : T) (vs : List V) : Prop := match t with
  | .lst _ => Rd H a (.lst vs)
  | .tup _ => H a = some (.tup vs)
  | .dic ks _ => ks.length = vs.length ∧ Rd H a (.dK (ks.zip vs))
  | .dit ks _ => ks.length = vs.length ∧ Rd H a (.dT (ks.zip vs))
  | .ins c fs _ => fs.length = vs.length ∧ ∃ dx, H a = some (.ins (He.ga K c) dx (fs.zip vs))
  | _ => False
def Sc (K : PySem.W.Frag) (v : V) (t : T) : Prop := match t with
  | .non => v = .non
  | .bl b => v = .bl b
  | .int i => v = .int i
  | .str s => v = .str s ∧ PyData.strOk s = true
  | .gl x => v = .ref (He.ga K x)
  | .ty n => v = .ty n
  | .ctup ts => ∃ a, v = .ref a ∧ (∀ H : Hp, SqT K H a (ts.map T.sv)) ∧ ts.all T.isS = true
  | .clst ts => ∃ a, v = .ref a ∧ (∀ H : Hp, SqL K H a (ts.map T.sv)) ∧ ts.all T.isS = true
  | _ => False
/-! ### edges by predicates -/
/-- something lies at a, and no tuple -/
def NT (H : Hp) (a : Addr) : Prop := H a ≠ none ∧ ∀ xs, H a ≠ some (.tup xs)
def EdP (U : Addr → Prop) (H H' : Hp) : Prop := (∀ a o, ¬ U a → H a = some o → H' a = some o) ∧ (∀ a, H a ≠ none → H' a ≠ none) ∧ ∀ a, NT H a → NT H' a
abbrev noA : Addr → Prop := fun _ => False
def Xt (U U' : Addr → Prop) (H H' : Hp) : Prop := EdP U H H' ∧ ∀ a, U' a → U a ∨ H a = none
section
variable {U U' V' : Addr → Prop} {H H' H0 H1 H2 : Hp} {a p : Addr} {o : HO}
theorem NT.upd (ho : ∀ xs, o ≠ .tup xs := by exact fun _ z => nomatch z) : NT (upd H p o) p := by
  unfold NT
  rw [upd_same]
  exact ⟨(fun z => nomatch z), fun xs z => ho xs (Option.some.inj z)⟩
theorem NT.eq (h : NT H a) (e : H' a = H a) : NT H' a := by unfold NT; rw [e]; exact h
theorem NT.of {u : HO} (e : H a = some u) (ho : ∀ xs, u ≠ .tup xs := by exact fun _ z => nomatch z) : NT H a := by
  unfold NT
  rw [e]
  exact ⟨(fun z => nomatch z), fun xs z => ho xs (Option.some.inj z)⟩
theorem EdP.refl : EdP U H H := ⟨fun _ _ _ e => e, fun _ h => h, fun _ h => h⟩
theorem EdP.free (e : EdP U H H') (h : H' a = none) : H a = none := by
  by_cases z : H a = none
  · exact z
  · exact absurd h (e.2.1 a z)
theorem EdP.tr (h1 : EdP U H0 H1) (h2 : EdP U' H1 H2) (hv : ∀ a, U' a → U a ∨ H0 a = none) : EdP U H0 H2 :=
  ⟨fun a o n e => h2.1 a o (fun z => (hv a z).elim n (fun q => by rw [q] at e; cases e)) (h1.1 a o n e), fun a h => h2.2.1 a (h1.2.1 a h), fun a h => h2.2.2 a (h1.2.2 a h)⟩
theorem EdP.weak (h : EdP U H H') (hv : ∀ a, U a → U' a) : EdP U' H H' := ⟨fun a o n e => h.1 a o (fun z => n (hv a z)) e, h.2⟩
theorem EdP.new (hp : H p = none) : EdP noA H (upd H p o) := ⟨fun a u _ e => by rw [upd_ne (ne_of_none e hp)]; exact e, fun a h => by
  rw [upd_ne (fun z : a = p => h (by rw [z]; exact hp))]; exact h, fun a h => by
  unfold NT
  rw [upd_ne (fun z : a = p => h.1 (by rw [z]; exact hp))]; exact h⟩
theorem EdP.put (ho : ∀ xs, o ≠ .tup xs := by exact fun _ z => nomatch z) : EdP (fun a => a = p) H (upd H p o) := ⟨fun a u n e => by rw [upd_ne n]; exact e, fun a h => by
  by_cases z : a = p
  · rw [z, upd_same]; exact fun z => nomatch z
  · rw [upd_ne z]; exact h, fun a h => by
  unfold NT
  by_cases z : a = p
  · rw [z, upd_same]; exact ⟨(fun z => nomatch z), fun xs z => ho xs (Option.some.inj z)⟩
  · rw [upd_ne z]; exact h⟩
theorem EdP.ed {L : List Addr} (h : NL.Ed L H H') (hn : ∀ a ∈ L, NT H a → NT H' a) : EdP (fun a => a ∈ L) H H' := ⟨fun a o n e => h.1 a o n e, h.2, fun a k => by
  by_cases z : a ∈ L
  · exact hn a z k
  · cases q : H a with
    | none => exact absurd q k.1
    | some o =>
      unfold NT
      rw [h.1 a o z q, ← q]
      exact k⟩
theorem Xt.refl : Xt U U H H := ⟨.refl, fun _ h => .inl h⟩
theorem Xt.tr (h1 : Xt U U' H0 H1) (h2 : Xt U' V' H1 H2) : Xt U V' H0 H2 :=
  ⟨h1.1.tr h2.1 h1.2, fun a z => (h2.2 a z).elim (fun q => h1.2 a q) fun q => .inr (h1.1.free q)⟩
theorem Xt.ed0 (h1 : Xt U U' H0 H1) (h2 : EdP noA H1 H2) : Xt U U' H0 H2 := ⟨h1.1.tr h2 fun _ z => z.elim, h1.2⟩
theorem EdP.xt0 (h2 : EdP noA H1 H2) : Xt U U H1 H2 := ⟨h2.weak fun _ z => z.elim, fun _ z => .inl z⟩
end
/-! ### frozen data: nothing of it lies in G -/
mutual
inductive Df (K : PySem.W.Frag) (G : Addr → Prop) (H : Hp) : V → T → Prop
  | sc {v : V} {t : T} : Sc K v t → Df K G H v t
  | nd {a : Addr} {t : T} {vs : List V} : ¬ G a → CellR K H a t vs → DfL K G H vs t.kids → Df K G H (.ref a) t
inductive DfL (K : PySem.W.Frag) (G : Addr → Prop) (H : Hp) : List V → List T → Prop
  | nil : DfL K G H [] []
  | cons {v : V} {t : T} {vs : List V} {ts : List T} : Df K G H v t → DfL K G H vs ts → DfL K G H (v :: vs) (t :: ts)
end
theorem rd_alive {H : Hp} {a : Addr} {u : HO} (h : Rd H a u) : H a ≠ none := by
  rcases h with h | ⟨_, h⟩ <;> rw [h] <;> exact fun z => nomatch z
theorem rd_keep {H H' : Hp} {a : Addr} {u : HO} (k : ∀ o, H a = some o → H' a = some o) (h : Rd H a u) : Rd H' a u := by
  rcases h with h | ⟨o, h⟩
  · exact .inl (k _ h)
  · exact .inr ⟨o, k _ h⟩
theorem CellR.alive {K : PySem.W.Frag} {H : Hp} {a : Addr} {t : T} {vs : List V} (h : CellR K H a t vs) : H a ≠ none := by
  unfold CellR at h
  split at h
  · exact rd_alive h
  · rw [h]; exact fun z => nomatch z
  · exact rd_alive h.2
  · exact rd_alive h.2
  · obtain ⟨_, _, h⟩ := h; rw [h]; exact fun z => nomatch z
  · exact h.elim
theorem Cell.r {K : PySem.W.Frag} {H : Hp} {a : Addr} {t : T} {vs : List V} (h : Cell K H a t vs) : CellR K H a t vs := by
  cases t <;> first
    | exact Or.inl h
    | exact ⟨h.1, Or.inl h.2⟩
    | exact h
theorem CellR.keep {K : PySem.W.Frag} {H H' : Hp} {a : Addr} {t : T} {vs : List V} (k : ∀ o, H a = some o → H' a = some o) (h : CellR K H a t vs) : CellR K H' a t vs := by
  unfold CellR at h ⊢
  split at h
  · exact rd_keep k h
  · exact k _ h
  · exact ⟨h.1, rd_keep k h.2⟩
  · exact ⟨h.1, rd_keep k h.2⟩
  · obtain ⟨h0, dx, h⟩ := h; exact ⟨h0, dx, k _ h⟩
  · exact h.elim
theorem Cell.keep {K : PySem.W.Frag} {H H' : Hp} {a : Addr} {t : T} {vs : List V} (k : ∀ o, H a = some o → H' a = some o) (h : Cell K H a t vs) : Cell K H' a t vs := by
  unfold Cell at h ⊢
  split at h
  · exact k _ h
  · exact k _ h
  · exact ⟨h.1, k _ h.2⟩
  · exact ⟨h.1, k _ h.2⟩
  · obtain ⟨h0, dx, h⟩ := h; exact ⟨h0, dx, k _ h⟩
  · exact h.elim
section
variable {K : PySem.W.Frag} {G G' U : Addr → Prop} {H H' : Hp}
mutual
theorem Df.step (e : EdP U H H') (hu : ∀ a, U a → G a ∨ H a = none) (hg : ∀ a, G' a → G a ∨ H a = none) : ∀ {v : V} {t : T}, Df K G H v t → Df K G' H' v t
  | _, _, .sc h => .sc h
  | _, _, .nd n c r => .nd (fun z => (hg _ z).elim n fun q => c.alive q) (c.keep fun o q => e.1 _ _ (fun z => (hu _ z).elim n fun w => c.alive w) q) (DfL.step e hu hg r)
theorem DfL.step (e : EdP U H H') (hu : ∀ a, U a → G a ∨ H a = none) (hg : ∀ a, G' a → G a ∨ H a = none) : ∀ {vs : List V} {ts : List T}, DfL K G H vs ts → DfL K G' H' vs ts
  | _, _, .nil => .nil
  | _, _, .cons h r => .cons (Df.step e hu hg h) (DfL.step e hu hg r)
end
theorem Df.weak {v : V} {t : T} (hg : ∀ a, G' a → G a) (h : Df K G H v t) : Df K G' H v t := h.step (U := noA) .refl (fun _ z => z.elim) fun a z => .inl (hg a z)
theorem DfL.weak {v : List V} {t : List T} (hg : ∀ a, G' a → G a) (h : DfL K G H v t) : DfL K G' H v t := h.step (U := noA) .refl (fun _ z => z.elim) fun a z => .inl (hg a z)
theorem Df.ed0 {v : V} {t : T} (e : EdP noA H H') (h : Df K G H v t) : Df K G H' v t := h.step e (fun _ z => z.elim) fun a z => .inl z
theorem DfL.ed0 {v : List V} {t : List T} (e : EdP noA H H') (h : DfL K G H v t) : DfL K G H' v t := h.step e (fun _ z => z.elim) fun a z => .inl z
theorem DfL.length : ∀ {vs : List V} {ts : List T}, DfL K G H vs ts → vs.length = ts.length
  | _, _, .nil => rfl
  | _, _, .cons _ r => by rw [List.length_cons, List.length_cons, DfL.length r]
theorem DfL.at : ∀ {vs : List V} {ts : List T} {i : Nat} {t : T}, DfL K G H vs ts → ts[i]? = some t → ∃ v, vs[i]? = some v ∧ Df K G H v t
  | _, _, _, _, .nil, e => by simp at e
  | _, _, 0, _, .cons h _, e => by simp at e; subst e; exact ⟨_, rfl, h⟩
  | _, _, i + 1, _, .cons _ r, e => by
    obtain ⟨v, h1, h2⟩ := DfL.at r (i := i) (by simpa using e)
    exact ⟨v, by simpa using h1, h2⟩
theorem DfL.app : ∀ {vs ws : List V} {ts us : List T}, DfL K G H vs ts → DfL K G H ws us → DfL K G H (vs ++ ws) (ts ++ us)
  | _, _, _, _, .nil, h => h
  | _, _, _, _, .cons h r, q => .cons h (DfL.app r q)
theorem DfL.drop : ∀ {vs : List V} {ts : List T} (n : Nat), DfL K G H vs ts → DfL K G H (vs.drop n) (ts.drop n)
  | _, _, 0, h => h
  | _, _, _ + 1, .nil => .nil
  | _, _, n + 1, .cons _ r => DfL.drop n r
theorem DfL.take : ∀ {vs : List V} {ts : List T} (n : Nat), DfL K G H vs ts → DfL K G H (vs.take n) (ts.take n)
  | _, _, 0, _ => .nil
  | _, _, _ + 1, .nil => .nil
  | _, _, n + 1, .cons h r => .cons h (DfL.take n r)
theorem DfL.set {v : V} {t : T} (h : Df K G H v t) : ∀ {vs : List V} {ts : List T} (n : Nat), DfL K G H vs ts → DfL K G H (vs.set n v) (ts.set n t)
  | _, _, _, .nil => .nil
  | _, _, 0, .cons _ r => .cons h r
  | _, _, n + 1, .cons q r => .cons q (DfL.set h n r)
theorem DfL.sv : ∀ {ts : List T}, ts.all T.isS = true → DfL K G H (ts.map T.sv) ts
  | [], _ => .nil
  | t :: r, h => by
    rw [List.all_cons, Bool.and_eq_true] at h
    refine .cons (.sc ?_) (DfL.sv h.2)
    cases t <;> first
      | rfl
      | exact ⟨rfl, h.1⟩
      | exact absurd h.1 Bool.false_ne_true
theorem DfL.svs : ∀ {ts : List T} {vs : List V}, DfL K G H vs ts → ts.all T.isS = true → vs = ts.map T.sv
  | [], _, .nil, _ => rfl
  | t :: r, _, .cons h q, z => by
    rw [List.all_cons, Bool.and_eq_true] at z
    rw [DfL.svs q z.2]
    cases h with
    | sc h =>
      cases t <;> first
        | (cases h; rfl)
        | (obtain ⟨rfl, _⟩ := h; rfl)
        | exact absurd z.1 Bool.false_ne_true
    | nd n c _ =>
      cases t <;> first
        | exact absurd z.1 Bool.false_ne_true
        | exact c.elim
end
/-! ### owned trees: all their own places are told, no two alike -/
inductive Sh where
  | fz | all (s : Sh) | flds (d : List (Str × Sh)) | row (ss : List Sh) | opt (s : Sh)
  /-- lent: it is read only, and lies apart from what is one's own -/
  | vw
  /-- a caught exception at a, its field f in d -/
  | xc (a d : Addr) (c f : Str)
def Sh.pln : Sh → Bool
  | .vw => false
  | .xc .. => false
  | _ => true
def Sh.nxc : Sh → Bool
  | .xc .. => false
  | _ => true
def Sh.kids (s : Sh) (t : T) : Option (List Sh) := match s, t with
  | .all s, .lst ts => some (ts.map fun _ => s)
  | .all s, .dic _ ts => some (ts.map fun _ => s)
  | .all s, .dit _ ts => some (ts.map fun _ => s)
  | .flds d, .ins _ fs _ => some (fs.map fun f => (d.lookup f).getD .fz)
  | .row ss, .lst _ => some ss
  | _, _ => none
mutual
inductive Ow (K : PySem.W.Frag) (G : Addr → Prop) (H : Hp) : Sh → List Addr → V → T → Prop
  | fz {v : V} {t : T} : Df K G H v t → Ow K G H .fz [] v t
  | nd {s : Sh} {a : Addr} {F : List Addr} {t : T} {vs : List V} {ss : List Sh} : Cell K H a t vs → s.kids t = some ss → OwL K G H ss F vs t.kids → Ow K G H s (a :: F) (.ref a) t
  | optN {s : Sh} : Ow K G H (.opt s) [] .non .non
  | optS {s : Sh} {F : List Addr} {v : V} {t : T} : Ow K G H s F v t → Ow K G H (.opt s) F v t
inductive OwL (K : PySem.W.Frag) (G : Addr → Prop) (H : Hp) : List Sh → List Addr → List V → List T → Prop
  | nil : OwL K G H [] [] [] []
  | cons {s : Sh} {ss : List Sh} {F F' : List Addr} {v : V} {t : T} {vs : List V} {ts : List T} : Ow K G H s F v t → OwL K G H ss F' vs ts → OwL K G H (s :: ss) (F ++ F') (v :: vs) (t :: ts)
end
section
variable {K : PySem.W.Frag} {G G' U : Addr → Prop} {H H' : Hp}
mutual
theorem Ow.step (e : EdP U H H') (hu : ∀ a, U a → G a ∨ H a = none) (hg : ∀ a, G' a → G a ∨ H a = none) : ∀ {s : Sh} {F : List Addr} {v : V} {t : T}, (∀ a ∈ F, ¬ U a) → Ow K G H s F v t → Ow K G' H' s F v t
  | _, _, _, _, _, .fz h => .fz (h.step e hu hg)
  | _, _, _, _, n, .nd c k r => .nd (c.keep fun o q => e.1 _ _ (n _ (List.mem_cons_self ..)) q) k (OwL.step e hu hg (fun a z => n a (List.mem_cons_of_mem _ z)) r)
  | _, _, _, _, _, .optN => .optN
  | _, _, _, _, n, .optS h => .optS (Ow.step e hu hg n h)
theorem OwL.step (e : EdP U H H') (hu : ∀ a, U a → G a ∨ H a = none) (hg : ∀ a, G' a → G a ∨ H a = none) : ∀ {ss : List Sh} {F : List Addr} {vs : List V} {ts : List T}, (∀ a ∈ F, ¬ U a) → OwL K G H ss F vs ts → OwL K G' H' ss F vs ts
  | _, _, _, _, _, .nil => .nil
  | _, _, _, _, n, .cons h r => .cons (Ow.step e hu hg (fun a z => n a (List.mem_append_left _ z)) h) (OwL.step e hu hg (fun a z => n a (List.mem_append_right _ z)) r)
end
mutual
theorem Ow.alive : ∀ {s : Sh} {F : List Addr} {v : V} {t : T}, Ow K G H s F v t → ∀ a ∈ F, H a ≠ none
  | _, _, _, _, .fz _, _, z => absurd z List.not_mem_nil
  | _, _, _, _, .nd c _ r, b, z => (List.mem_cons.mp z).elim (fun q => by rw [q]; exact c.r.alive) fun q => OwL.alive r b q
  | _, _, _, _, .optN, _, z => absurd z List.not_mem_nil
  | _, _, _, _, .optS h, a, z => Ow.alive h a z
theorem OwL.alive : ∀ {ss : List Sh} {F : List Addr} {vs : List V} {ts : List T}, OwL K G H ss F vs ts → ∀ a ∈ F, H a ≠ none
  | _, _, _, _, .nil, _, z => absurd z List.not_mem_nil
  | _, _, _, _, .cons h r, a, z => (List.mem_append.mp z).elim (fun q => Ow.alive h a q) fun q => OwL.alive r a q
end
theorem Cell.nt {a : Addr} {s : Sh} {t : T} {vs : List V} {ss : List Sh} (h : Cell K H a t vs) (k : s.kids t = some ss) : NT H a := by
  refine ⟨h.r.alive, fun xs z => ?_⟩
  unfold Sh.kids at k
  split at k
  · have h : H a = _ := h
    rw [z] at h; cases h
  · have h : H a = _ := h.2
    rw [z] at h; cases h
  · have h : H a = _ := h.2
    rw [z] at h; cases h
  · obtain ⟨_, dx, h⟩ := h
    rw [z] at h; cases h
  · have h : H a = _ := h
    rw [z] at h; cases h
  · cases k
mutual
theorem Ow.nt : ∀ {s : Sh} {F : List Addr} {v : V} {t : T}, Ow K G H s F v t → ∀ a ∈ F, NT H a
  | _, _, _, _, .fz _, _, z => absurd z List.not_mem_nil
  | _, _, _, _, .nd c k r, b, z => (List.mem_cons.mp z).elim (fun q => by rw [q]; exact c.nt k) fun q => OwL.nt r b q
  | _, _, _, _, .optN, _, z => absurd z List.not_mem_nil
  | _, _, _, _, .optS h, a, z => Ow.nt h a z
theorem OwL.nt : ∀ {ss : List Sh} {F : List Addr} {vs : List V} {ts : List T}, OwL K G H ss F vs ts → ∀ a ∈ F, NT H a
  | _, _, _, _, .nil, _, z => absurd z List.not_mem_nil
  | _, _, _, _, .cons h r, a, z => (List.mem_append.mp z).elim (fun q => Ow.nt h a q) fun q => OwL.nt r a q
end
mutual
theorem Ow.freeze : ∀ {s : Sh} {F : List Addr} {v : V} {t : T}, (∀ a, G' a → G a ∧ a ∉ F) → Ow K G H s F v t → Df K G' H v t
  | _, _, _, _, n, .fz h => h.weak fun a z => (n a z).1
  | _, _, _, _, n, .nd c _ r => .nd (fun z => (n _ z).2 (List.mem_cons_self ..)) c.r (OwL.freeze (fun a z => ⟨(n a z).1, fun q => (n a z).2 (List.mem_cons_of_mem _ q)⟩) r)
  | _, _, _, _, _, .optN => .sc rfl
  | _, _, _, _, n, .optS h => Ow.freeze n h
theorem OwL.freeze : ∀ {ss : List Sh} {F : List Addr} {vs : List V} {ts : List T}, (∀ a, G' a → G a ∧ a ∉ F) → OwL K G H ss F vs ts → DfL K G' H vs ts
  | _, _, _, _, _, .nil => .nil
  | _, _, _, _, n, .cons h r => .cons (Ow.freeze (fun a z => ⟨(n a z).1, fun q => (n a z).2 (List.mem_append_left _ q)⟩) h) (OwL.freeze (fun a z => ⟨(n a z).1, fun q => (n a z).2 (List.mem_append_right _ q)⟩) r)
end
theorem Ow.weak {s : Sh} {F : List Addr} {v : V} {t : T} (hg : ∀ a, G' a → G a) (h : Ow K G H s F v t) : Ow K G' H s F v t := h.step (U := noA) .refl (fun _ z => z.elim) (fun a z => .inl (hg a z)) fun _ _ z => z.elim
theorem Ow.ed0 {s : Sh} {F : List Addr} {v : V} {t : T} (e : EdP noA H H') (h : Ow K G H s F v t) : Ow K G H' s F v t := h.step e (fun _ z => z.elim) (fun a z => .inl z) fun _ _ z => z.elim
theorem Ow.df {F : List Addr} {v : V} {t : T} (h : Ow K G H .fz F v t) : Df K G H v t ∧ F = [] := by
  cases h with
  | fz h => exact ⟨h, rfl⟩
  | nd c k r => simp [Sh.kids] at k
theorem OwL.df : ∀ {ts : List T} {vs : List V} {F : List Addr}, OwL K G H (ts.map fun _ => .fz) F vs ts → DfL K G H vs ts ∧ F = []
  | [], _, _, .nil => ⟨.nil, rfl⟩
  | t :: r, _, _, .cons h q => by
    obtain ⟨h1, rfl⟩ := h.df
    obtain ⟨h2, rfl⟩ := OwL.df q
    exact ⟨.cons h1 h2, rfl⟩
end
/-! ### what a value stands for, wherever it lies -/
mutual
inductive Rp (K : PySem.W.Frag) (H : Hp) : V → T → Prop
  | sc {v : V} {t : T} : Sc K v t → Rp K H v t
  | nd {a : Addr} {t : T} {vs : List V} : CellR K H a t vs → RpL K H vs t.kids → Rp K H (.ref a) t
inductive RpL (K : PySem.W.Frag) (H : Hp) : List V → List T → Prop
  | nil : RpL K H [] []
  | cons {v : V} {t : T} {vs : List V} {ts : List T} : Rp K H v t → RpL K H vs ts → RpL K H (v :: vs) (t :: ts)
end
section
variable {K : PySem.W.Frag} {G : Addr → Prop} {H H' : Hp}
mutual
theorem Df.rp : ∀ {v : V} {t : T}, Df K G H v t → Rp K H v t
  | _, _, .sc h => .sc h
  | _, _, .nd _ c r => .nd c (DfL.rp r)
theorem DfL.rp : ∀ {vs : List V} {ts : List T}, DfL K G H vs ts → RpL K H vs ts
  | _, _, .nil => .nil
  | _, _, .cons h r => .cons (Df.rp h) (DfL.rp r)
end
mutual
theorem Ow.rp : ∀ {s : Sh} {F : List Addr} {v : V} {t : T}, Ow K G H s F v t → Rp K H v t
  | _, _, _, _, .fz h => h.rp
  | _, _, _, _, .nd c _ r => .nd c.r (OwL.rp r)
  | _, _, _, _, .optN => .sc rfl
  | _, _, _, _, .optS h => Ow.rp h
theorem OwL.rp : ∀ {ss : List Sh} {F : List Addr} {vs : List V} {ts : List T}, OwL K G H ss F vs ts → RpL K H vs ts
  | _, _, _, _, .nil => .nil
  | _, _, _, _, .cons h r => .cons (Ow.rp h) (OwL.rp r)
end
theorem RpL.length : ∀ {vs : List V} {ts : List T}, RpL K H vs ts → vs.length = ts.length
  | _, _, .nil => rfl
  | _, _, .cons _ r => by rw [List.length_cons, List.length_cons, RpL.length r]
theorem Rp.isS {v : V} {t : T} (h : Rp K H v t) (z : t.isS = true) : v = t.sv := by
  cases h with
  | sc h =>
    cases t <;> first
      | (cases h; rfl)
      | (obtain ⟨rfl, _⟩ := h; rfl)
      | exact absurd z Bool.false_ne_true
  | nd c _ =>
    cases t <;> first
      | exact absurd z Bool.false_ne_true
      | exact c.elim
theorem Df.isS {v : V} {t : T} (h : Rp K H v t) (z : t.isS = true) : Df K G H v t := by
  cases h with
  | sc h => exact .sc h
  | nd c _ =>
    cases t <;> first
      | exact absurd z Bool.false_ne_true
      | exact c.elim
theorem RpL.svs : ∀ {ts : List T} {vs : List V}, RpL K H vs ts → ts.all T.isS = true → vs = ts.map T.sv
  | [], _, .nil, _ => rfl
  | t :: r, _, .cons h q, z => by
    rw [List.all_cons, Bool.and_eq_true] at z
    rw [RpL.svs q z.2, h.isS z.1]
    rfl
end
/-! ### a view: it may be read; what lies in it is frozen -/
def Vw (K : PySem.W.Frag) (G : Addr → Prop) (H : Hp) (v : V) (t : T) : Prop := Sc K v t ∨ ∃ a vs, v = .ref a ∧ CellR K H a t vs ∧ DfL K G H vs t.kids
theorem Vw.rp {K : PySem.W.Frag} {G : Addr → Prop} {H : Hp} {v : V} {t : T} (h : Vw K G H v t) : Rp K H v t := by
  rcases h with h | ⟨a, vs, rfl, c, r⟩
  · exact .sc h
  · exact .nd c r.rp
theorem Df.vw {K : PySem.W.Frag} {G : Addr → Prop} {H : Hp} {v : V} {t : T} (h : Df K G H v t) : Vw K G H v t := by
  cases h with
  | sc h => exact .inl h
  | nd n c r => exact .inr ⟨_, _, rfl, c, r⟩
/-- shapes whose parts are all frozen -/
def Sh.flat : Sh → Bool
  | .fz => true
  | .all .fz => true
  | .opt (.all .fz) => true
  | .flds d => d.all fun p => match p.2 with | .fz => true | _ => false
  | .row ss => ss.all fun s => match s with | .fz => true | _ => false
  | _ => false
theorem OwL.flat {K : PySem.W.Frag} {G : Addr → Prop} {H : Hp} : ∀ {ss : List Sh} {ts : List T} {vs : List V} {F : List Addr}, (∀ s ∈ ss, s = .fz) → OwL K G H ss F vs ts → DfL K G H vs ts
  | _, _, _, _, _, .nil => .nil
  | _, _, _, _, n, .cons h q => by
    have e := n _ (List.mem_cons_self ..)
    subst e
    exact .cons h.df.1 (OwL.flat (fun s z => n s (List.mem_cons_of_mem _ z)) q)
theorem lookup_mem {α : Type} {d : List (Str × α)} {f : Str} {s : α} (h : d.lookup f = some s) : ∃ p ∈ d, p.2 = s := by
  induction d with
  | nil => simp at h
  | cons p r ih =>
    obtain ⟨a, b⟩ := p
    rw [List.lookup_cons] at h
    split at h
    · cases h; exact ⟨_, List.mem_cons_self .., rfl⟩
    · obtain ⟨q, h1, h2⟩ := ih h
      exact ⟨q, List.mem_cons_of_mem _ h1, h2⟩
theorem Ow.vw {K : PySem.W.Frag} {G : Addr → Prop} {H : Hp} : ∀ {s : Sh} {F : List Addr} {v : V} {t : T}, s.flat = true → Ow K G H s F v t → Vw K G H v t
  | _, _, _, _, _, .fz h => h.vw
  | s, _, _, t, f, .nd c k r => by
    refine .inr ⟨_, _, rfl, c.r, r.flat fun s' hs' => ?_⟩
    unfold Sh.kids at k
    unfold Sh.flat at f
    split at k <;> cases k
    · simp only [List.mem_map] at hs'
      obtain ⟨_, _, rfl⟩ := hs'
      split at f <;> first | rfl | simp_all
    · simp only [List.mem_map] at hs'
      obtain ⟨_, _, rfl⟩ := hs'
      split at f <;> first | rfl | simp_all
    · simp only [List.mem_map] at hs'
      obtain ⟨_, _, rfl⟩ := hs'
      split at f <;> first | rfl | simp_all
    · simp only [List.mem_map] at hs'
      obtain ⟨g, _, rfl⟩ := hs'
      rename_i d _ _ _ _
      simp only [List.all_eq_true] at f
      cases q : d.lookup g with
      | none => rfl
      | some s' =>
        obtain ⟨p, h1, h2⟩ := lookup_mem q
        have := f p h1
        rw [h2] at this
        show s' = .fz
        cases s' <;> simp_all
    · simp only [List.all_eq_true] at f
      have := f s' hs'
      cases s' <;> simp_all
  | _, _, _, _, _, .optN => .inl rfl
  | .opt s, _, _, _, f, .optS h => by
    refine Ow.vw ?_ h
    unfold Sh.flat at f
    split at f <;> first | rfl | simp_all [Sh.flat]
end NQ
namespace NQ
open PySem L2
/-! ### slots as trees; outcomes -/
structure Xn where
  cls : Str
  fld : Str
  val : T
abbrev Dl := List (Option T)
abbrev Rs := Option (Except Xn T × Dl)
def dAt : Dl → Nat → Option T
  | [], _ => none
  | x :: _, 0 => x
  | _ :: r, i + 1 => dAt r i
theorem dAt_set_eq : ∀ {δ : Dl} {i : Nat} {t : Option T} {u : T}, dAt (δ.set i t) i = some u → t = some u
  | [], _, _, _, h => by cases h
  | _ :: _, 0, _, _, h => h
  | _ :: r, i + 1, _, _, h => dAt_set_eq (δ := r) h
theorem dAt_set_ne : ∀ {δ : Dl} {i j : Nat} {t : Option T}, j ≠ i → dAt (δ.set i t) j = dAt δ j
  | [], _, _, _, _ => rfl
  | _ :: _, 0, 0, _, h => absurd rfl h
  | _ :: _, 0, _ + 1, _, _ => rfl
  | _ :: _, _ + 1, 0, _, _ => rfl
  | _ :: r, i + 1, j + 1, _, h => dAt_set_ne (δ := r) fun z => h (by rw [z])
theorem dAt_lt : ∀ {δ : Dl} {i : Nat} {u : T}, dAt δ i = some u → i < δ.length
  | [], _, _, h => by cases h
  | _ :: _, 0, _, _ => Nat.succ_pos _
  | _ :: r, i + 1, _, h => Nat.succ_lt_succ (dAt_lt (δ := r) h)
theorem dAt_set_self : ∀ {δ : Dl} {i : Nat} {t : T}, i < δ.length → dAt (δ.set i (some t)) i = some t
  | [], _, _, h => absurd h (Nat.not_lt_zero _)
  | _ :: _, 0, _, _ => rfl
  | _ :: r, i + 1, _, h => dAt_set_self (δ := r) (Nat.lt_of_succ_lt_succ h)
/-- one's own; with what is held meanwhile; with what others may change -/
def Om (Fm : Nat → List Addr) : Addr → Prop := fun a => ∃ i, a ∈ Fm i
def Gm (X : List Addr) (Fm : Nat → List Addr) : Addr → Prop := fun a => a ∈ X ∨ Om Fm a
def Gw (X : List Addr) (Fm : Nat → List Addr) (W : Addr → Prop) : Addr → Prop := fun a => Gm X Fm a ∨ W a
/-- what a slot of the shape s holds: of one's own, frozen, or lent -/
def Xs (K : PySem.W.Frag) (G : Addr → Prop) (H : Hp) (s : Sh) (F : List Addr) (v : V) (t : T) : Prop := F = [] ∧ ∃ a d c f u, s = .xc a d c f ∧ v = .ref a ∧ ¬ G d ∧ H d = some (.xd [(f, u)]) ∧ Df K G H u t
def Sr (K : PySem.W.Frag) (X : List Addr) (Fm : Nat → List Addr) (W : Addr → Prop) (H : Hp) (s : Sh) (F : List Addr) (v : V) (t : T) : Prop := ((s = .vw ∧ F = [] ∧ Df K (Gm X Fm) H v t) ∨ Xs K (Gw X Fm W) H s F v t) ∨ Ow K (Gw X Fm W) H s F v t
structure Fr (K : PySem.W.Frag) (sh : Nat → Sh) (W : Addr → Prop) (X : List Addr) (Fm : Nat → List Addr) (H : Hp) (σ : L2.St) (δ : Dl) : Prop where
  rel : ∀ i t, dAt δ i = some t → ∃ v, σ[i]? = some (some v) ∧ Sr K X Fm W H (sh i) (Fm i) v t
  un : ∀ i, dAt δ i = none → Fm i = []
  nd : ∀ i, (Fm i).Nodup
  dj : ∀ i j a, i ≠ j → a ∈ Fm i → a ∉ Fm j
  dw : ∀ i a, a ∈ Fm i → ¬ W a
  wl : ∀ a, W a → NT H a
  len : δ.length ≤ σ.length
  xn : X.Nodup
  xd : ∀ i a, a ∈ X → a ∉ Fm i
  xw : ∀ a ∈ X, ¬ W a
  xl : ∀ a ∈ X, NT H a
section
variable {K : PySem.W.Frag} {sh : Nat → Sh} {W W' U : Addr → Prop} {X X' : List Addr} {Fm Fm' : Nat → List Addr} {H H' : Hp} {σ : L2.St} {δ : Dl} {i : Nat} {v : V} {t : T} {s : Sh} {F : List Addr}
theorem Sr.step (e : EdP U H H') (hu : ∀ a, U a → Gm X Fm a ∨ H a = none) (hg : ∀ a, Gw X' Fm' W' a → Gw X Fm W a ∨ H a = none) (hm : ∀ a, Gm X' Fm' a → Gm X Fm a ∨ H a = none) (hf : ∀ a ∈ F, ¬ U a) (h : Sr K X Fm W H s F v t) : Sr K X' Fm' W' H' s F v t := by
  rcases h with (⟨h1, h2, h3⟩ | ⟨h1, a, d, c, f, u, h2, h3, h4, h5, h6⟩) | h
  · exact .inl (.inl ⟨h1, h2, h3.step e hu hm⟩)
  · have ne : ¬ H d = none := by rw [h5]; exact fun z => nomatch z
    refine .inl (.inr ⟨h1, a, d, c, f, u, h2, h3, fun z => (hg d z).elim h4 ne, e.1 _ _ (fun z => (hu d z).elim (fun w => h4 (.inl w)) ne) h5, h6.step e (fun a z => (hu a z).imp .inl id) hg⟩)
  · exact .inr (h.step e (fun a z => (hu a z).imp .inl id) hg hf)
theorem Sr.ed0 (e : EdP noA H H') (h : Sr K X Fm W H s F v t) : Sr K X Fm W H' s F v t := h.step e (fun _ z => z.elim) (fun _ z => .inl z) (fun _ z => .inl z) fun _ _ z => z.elim
theorem Sr.weak (hg : ∀ a, Gw X' Fm' W' a → Gw X Fm W a) (hm : ∀ a, Gm X' Fm' a → Gm X Fm a) (h : Sr K X Fm W H s F v t) : Sr K X' Fm' W' H s F v t := h.step (U := noA) .refl (fun _ z => z.elim) (fun a z => .inl (hg a z)) (fun a z => .inl (hm a z)) fun _ _ z => z.elim
theorem Sr.alive (h : Sr K X Fm W H s F v t) : ∀ a ∈ F, H a ≠ none := by
  rcases h with (⟨_, h2, _⟩ | ⟨h2, _⟩) | h
  · rw [h2]; exact fun _ z => absurd z List.not_mem_nil
  · rw [h2]; exact fun _ z => absurd z List.not_mem_nil
  · exact h.alive
theorem Sr.nt (h : Sr K X Fm W H s F v t) : ∀ a ∈ F, NT H a := by
  rcases h with (⟨_, h2, _⟩ | ⟨h2, _⟩) | h
  · rw [h2]; exact fun _ z => absurd z List.not_mem_nil
  · rw [h2]; exact fun _ z => absurd z List.not_mem_nil
  · exact h.nt
theorem Sr.rp (h : Sr K X Fm W H s F v t) (n : s.nxc = true) : Rp K H v t := by
  rcases h with (⟨_, _, h⟩ | ⟨_, _, _, _, _, _, h, _⟩) | h
  · exact h.rp
  · rw [h] at n; cases n
  · exact h.rp
theorem Sr.fz (h : Sr K X Fm W H .fz F v t) : Df K (Gw X Fm W) H v t ∧ F = [] := by
  rcases h with (⟨h, _⟩ | ⟨_, _, _, _, _, _, h, _⟩) | h
  · cases h
  · cases h
  · exact h.df
theorem Sr.vw (h : Sr K X Fm W H .vw F v t) : Df K (Gm X Fm) H v t ∧ F = [] := by
  rcases h with (⟨_, h1, h2⟩ | ⟨_, _, _, _, _, _, h, _⟩) | h
  · exact ⟨h2, h1⟩
  · cases h
  · cases h with
    | nd c k r => simp [Sh.kids] at k
theorem Sr.xc {a d : Addr} {c f : Str} (h : Sr K X Fm W H (.xc a d c f) F v t) : F = [] ∧ v = .ref a ∧ ∃ u, H d = some (.xd [(f, u)]) ∧ Df K (Gw X Fm W) H u t := by
  rcases h with (⟨h, _⟩ | ⟨h0, _, _, _, _, u, h, h1, _, h2, h3⟩) | h
  · cases h
  · cases h; exact ⟨h0, h1, u, h2, h3⟩
  · cases h with
    | nd c k r => simp [Sh.kids] at k
theorem Sr.own (h : Sr K X Fm W H s F v t) (n : s.pln = true) : Ow K (Gw X Fm W) H s F v t := by
  rcases h with (⟨h, _⟩ | ⟨_, _, _, _, _, _, h, _⟩) | h
  · rw [h] at n; cases n
  · rw [h] at n; cases n
  · exact h
theorem Fr.nto (f : Fr K sh W X Fm H σ δ) : ∀ a, Om Fm a → NT H a := fun a ⟨i, h⟩ => by
  cases e : dAt δ i with
  | none => rw [f.un i e] at h; exact absurd h List.not_mem_nil
  | some t =>
    obtain ⟨v, _, o⟩ := f.rel i t e
    exact o.nt a h
theorem Fr.ntm (f : Fr K sh W X Fm H σ δ) : ∀ a, Gm X Fm a → NT H a := fun a h => h.elim (f.xl a) (f.nto a)
theorem Fr.nt (f : Fr K sh W X Fm H σ δ) : ∀ a, Gw X Fm W a → NT H a := fun a h => h.elim (f.ntm a) (f.wl a)
theorem Fr.al (f : Fr K sh W X Fm H σ δ) : ∀ a, Gw X Fm W a → H a ≠ none := fun a h => (f.nt a h).1
theorem Fr.ed0 (f : Fr K sh W X Fm H σ δ) (e : EdP noA H H') : Fr K sh W X Fm H' σ δ :=
  ⟨fun i t h => by obtain ⟨v, h1, h2⟩ := f.rel i t h; exact ⟨v, h1, h2.ed0 e⟩, f.un, f.nd, f.dj, f.dw, fun a z => e.2.2 a (f.wl a z), f.len, f.xn, f.xd, f.xw, fun a z => e.2.2 a (f.xl a z)⟩
theorem Fr.fz0 (f : Fr K sh W X Fm H σ δ) (h : sh i = .fz) : Fm i = [] := by
  cases e : dAt δ i with
  | none => exact f.un i e
  | some t =>
    obtain ⟨v, _, o⟩ := f.rel i t e
    rw [h] at o
    exact o.fz.2
theorem Fr.var (f : Fr K sh W X Fm H σ δ) (h : sh i = .fz) (e : dAt δ i = some t) : ∃ v, σ[i]? = some (some v) ∧ Df K (Gw X Fm W) H v t := by
  obtain ⟨v, h1, h2⟩ := f.rel i t e
  rw [h] at h2
  exact ⟨v, h1, h2.fz.1⟩
theorem Fr.set (f : Fr K sh W X Fm H σ δ) (h : Fm i = []) (d : Sr K X Fm W H (sh i) [] v t) : Fr K sh W X Fm H (σ.set i (some v)) (δ.set i (some t)) := by
  have l := f.len
  refine ⟨fun j u e => ?_, fun j e => ?_, f.nd, f.dj, f.dw, f.wl, by simpa using l, f.xn, f.xd, f.xw, f.xl⟩
  · by_cases z : j = i
    · subst z
      have e2 := dAt_set_eq e
      cases e2
      have lt : j < δ.length := by simpa using dAt_lt e
      refine ⟨v, by rw [List.getElem?_set_self (by omega)], ?_⟩
      rw [h]
      exact d
    · rw [dAt_set_ne z] at e
      obtain ⟨w, h1, h2⟩ := f.rel j u e
      exact ⟨w, by rw [List.getElem?_set_ne (fun q => z q.symm)]; exact h1, h2⟩
  · by_cases z : j = i
    · subst z
      exact h
    · rw [dAt_set_ne z] at e
      exact f.un j e
/-- a slot is forgotten; what it held is held meanwhile -/
theorem Fr.del (f : Fr K sh W X Fm H σ δ) (i : Nat) (v : Option V) : Fr K sh W (Fm i ++ X) (fun j => if j = i then [] else Fm j) H (σ.set i v) (δ.set i none) := by
  have l := f.len
  have hm : ∀ j a, (a ∈ if j = i then [] else Fm j) → j ≠ i ∧ a ∈ Fm j := fun j a h => by
    by_cases z : j = i
    · rw [if_pos z] at h; exact absurd h List.not_mem_nil
    · rw [if_neg z] at h; exact ⟨z, h⟩
  have hg : ∀ a, Gm (Fm i ++ X) (fun j => if j = i then [] else Fm j) a → Gm X Fm a := fun a h => h.elim (fun q => (List.mem_append.mp q).elim (fun z => .inr ⟨i, z⟩) .inl) fun ⟨j, q⟩ => .inr ⟨j, (hm j a q).2⟩
  have hw : ∀ a, Gw (Fm i ++ X) (fun j => if j = i then [] else Fm j) W a → Gw X Fm W a := fun a h => h.imp (hg a) id
  refine ⟨fun j u e => ?_, fun j e => ?_, fun j => ?_, fun j k a n q q2 => f.dj j k a n (hm j a q).2 (hm k a q2).2, fun j a q => f.dw j a (hm j a q).2, f.wl, by simpa using l, ?_, fun j a q q2 => ?_, fun a q => ?_, fun a q => ?_⟩
  · by_cases z : j = i
    · subst z
      exact absurd (dAt_set_eq e) (by simp)
    · rw [dAt_set_ne z] at e
      obtain ⟨w, h1, h2⟩ := f.rel j u e
      refine ⟨w, by rw [List.getElem?_set_ne (fun q => z q.symm)]; exact h1, ?_⟩
      simp only [if_neg z]
      exact h2.weak hw hg
  · by_cases z : j = i
    · simp only [if_pos z]
    · rw [dAt_set_ne z] at e
      simp only [if_neg z]
      exact f.un j e
  · by_cases z : j = i
    · simp only [if_pos z]; exact List.nodup_nil
    · simp only [if_neg z]; exact f.nd j
  · exact List.nodup_append.mpr ⟨f.nd i, f.xn, fun a h1 b h2 e => f.xd i b h2 (by rw [← e]; exact h1)⟩
  · obtain ⟨z1, z2⟩ := hm j a q2
    rcases List.mem_append.mp q with q | q
    · exact f.dj i j a (fun z => z1 z.symm) q z2
    · exact f.xd j a q z2
  · rcases List.mem_append.mp q with q | q
    · exact f.dw i a q
    · exact f.xw a q
  · rcases List.mem_append.mp q with q | q
    · exact f.nto a ⟨i, q⟩
    · exact f.xl a q
/-- what is held meanwhile is let go -/
theorem Fr.let (f : Fr K sh W (F ++ X) Fm H σ δ) : Fr K sh W X Fm H σ δ := by
  have nx := List.nodup_append.mp f.xn
  have hg : ∀ a, Gm X Fm a → Gm (F ++ X) Fm a := fun a h => h.imp (fun q => List.mem_append_right _ q) id
  exact ⟨fun i t h => by obtain ⟨v, h1, h2⟩ := f.rel i t h; exact ⟨v, h1, h2.weak (fun a z => z.imp (hg a) id) hg⟩, f.un, f.nd, f.dj, f.dw, f.wl, f.len, nx.2.1, fun i a q => f.xd i a (List.mem_append_right _ q), fun a q => f.xw a (List.mem_append_right _ q), fun a q => f.xl a (List.mem_append_right _ q)⟩
/-- a new place is held -/
theorem Fr.hold {p : Addr} {H' : Hp} (f : Fr K sh W X Fm H σ δ) (hp : H p = none) (e : EdP noA H H') (hp' : NT H' p) : Fr K sh W ([p] ++ X) Fm H' σ δ := by
  have np : ∀ a, Gw X Fm W a → a ≠ p := fun a z w => f.al a z (by rw [w]; exact hp)
  have hg : ∀ a, Gm ([p] ++ X) Fm a → Gm X Fm a ∨ H a = none := fun a h => h.elim (fun q => (List.mem_append.mp q).elim (fun z => .inr (by rw [List.mem_singleton.mp z]; exact hp)) fun z => .inl (.inl z)) fun q => .inl (.inr q)
  have f2 := f.ed0 e
  refine ⟨fun i t h => by obtain ⟨v, h1, h2⟩ := f.rel i t h; exact ⟨v, h1, h2.step e (fun _ z => z.elim) (fun a z => z.elim (fun q => (hg a q).imp .inl id) fun q => .inl (.inr q)) hg fun _ _ z => z.elim⟩, f2.un, f2.nd, f2.dj, f2.dw, f2.wl, f2.len, ?_, fun i a q => ?_, fun a q => ?_, fun a q => ?_⟩
  · exact List.nodup_append.mpr ⟨by simp, f.xn, fun a h1 b h2 z => np b (.inl (.inl h2)) (by rw [← z]; exact List.mem_singleton.mp h1)⟩
  · rcases List.mem_append.mp q with q | q
    · exact fun z => np a (.inl (.inr ⟨i, z⟩)) (List.mem_singleton.mp q)
    · exact f.xd i a q
  · rcases List.mem_append.mp q with q | q
    · exact fun z => np a (.inr z) (List.mem_singleton.mp q)
    · exact f.xw a q
  · rcases List.mem_append.mp q with q | q
    · rw [List.mem_singleton.mp q]; exact hp'
    · exact f2.xl a q
end
/-! ### readings -/
section
variable (K : PySem.W.Frag) (sh : Nat → Sh)
def Ke (Wx : WX) (W : Addr → Prop) (X : List Addr) (Fm : Nat → List Addr) (σ : L2.St) (H : Hp) (e : Xn) (δ' : Dl) : Prop :=
  ∀ d v H' Fm', Fr K sh W X Fm' H' σ δ' → Xt (Om Fm) (Om Fm') H H' → (¬ Gw X Fm' W d ∧ H' d = some (.xd [(e.fld, v)])) → Df K (Gw X Fm' W) H' v e.val → Wx (.ref (He.ga K e.cls)) (some d) σ H'
def Kf (Wx : WX) (W : Addr → Prop) (X : List Addr) (Fm : Nat → List Addr) (σ : L2.St) (H : Hp) (r : Rs) (Q : VK) : Prop := match r with
  | none => False
  | some (.ok t, δ') => ∀ x H' Fm', Fr K sh W X Fm' H' σ δ' → Xt (Om Fm) (Om Fm') H H' → Df K (Gw X Fm' W) H' x t → Q x H'
  | some (.error e, δ') => Ke K sh Wx W X Fm σ H e δ'
/-- an expression whose value is frozen data -/
def TF (Wx : WX) (f : Dl → Rs) : TE := fun σ H Q => ∃ W X Fm δ, Fr K sh W X Fm H σ δ ∧ Kf K sh Wx W X Fm σ H (f δ) Q
def Kn (s : Sh) (Wx : WX) (W : Addr → Prop) (X : List Addr) (Fm : Nat → List Addr) (σ : L2.St) (H : Hp) (r : Rs) (Q : VK) : Prop := match r with
  | none => False
  | some (.ok t, δ') => ∀ x H' Fm' F, Fr K sh W (F ++ X) Fm' H' σ δ' → Ow K (Gw (F ++ X) Fm' W) H' s F x t → Xt (Om Fm) (fun a => a ∈ F ∨ Om Fm' a) H H' → Q x H'
  | some (.error e, δ') => Ke K sh Wx W X Fm σ H e δ'
/-- how a quiet expression's value stands: frozen, lent, its parts frozen, or just so -/
inductive Md where
  | fz | vw | ch | rd
def Rm (X : List Addr) (Fm : Nat → List Addr) (W : Addr → Prop) (H : Hp) (m : Md) (x : V) (t : T) : Prop := match m with
  | .fz => Df K (Gw X Fm W) H x t
  | .vw => Df K (Gm X Fm) H x t
  | .ch => Vw K (Gw X Fm W) H x t
  | .rd => Rp K H x t
/-- a quiet expression: nothing but new things comes of it, and nothing is raised -/
def TQ (m : Md) (f : Dl → Option T) : TE := fun σ H Q => ∃ W X Fm δ t, Fr K sh W X Fm H σ δ ∧ f δ = some t ∧ ∀ x H', EdP noA H H' → Rm K X Fm W H' m x t → Q x H'
end
def qE (f : Dl → Option T) : Dl → Rs := fun δ => match f δ with
  | none => none
  | some t => some (.ok t, δ)
inductive Opd where
  | var (i : Nat) | val (f : Dl → Rs)
def TO (K : PySem.W.Frag) (sh : Nat → Sh) (Wx : WX) : Opd → TE
  | .var i => tVar i
  | .val f => TF K sh Wx f
def TOs (K : PySem.W.Frag) (sh : Nat → Sh) (Wx : WX) : List Opd → TA
  | [] => tNil
  | o :: r => tCons (TO K sh Wx o) (TOs K sh Wx r)
abbrev Rls := Option (Except Xn (List (Nat ⊕ T)) × Dl)
def runs : List Opd → Dl → Rls
  | [], δ => some (.ok [], δ)
  | .var i :: r, δ => match dAt δ i with
    | none => none
    | some _ => match runs r δ with
      | none => none
      | some (.error e, δ') => some (.error e, δ')
      | some (.ok l, δ') => some (.ok (.inl i :: l), δ')
  | .val f :: r, δ => match f δ with
    | none => none
    | some (.error e, δ') => some (.error e, δ')
    | some (.ok t, δ1) => match runs r δ1 with
      | none => none
      | some (.error e, δ') => some (.error e, δ')
      | some (.ok l, δ') => some (.ok (.inr t :: l), δ')
/-- the operands' trees, those of variables as they stand now -/
def res : List (Nat ⊕ T) → Dl → Option (List T)
  | [], _ => some []
  | .inl i :: r, δ => match dAt δ i, res r δ with
    | some t, some ts => some (t :: ts)
    | _, _ => none
  | .inr t :: r, δ => match res r δ with
    | some ts => some (t :: ts)
    | none => none
inductive ArgR (K : PySem.W.Frag) (G : Addr → Prop) (H : Hp) (σ : L2.St) : List (Nat ⊕ T) → List V → Prop
  | nil : ArgR K G H σ [] []
  | var {i : Nat} {x : V} {l : List (Nat ⊕ T)} {xs : List V} : σ[i]? = some (some x) → ArgR K G H σ l xs → ArgR K G H σ (.inl i :: l) (x :: xs)
  | val {t : T} {x : V} {l : List (Nat ⊕ T)} {xs : List V} : Df K G H x t → ArgR K G H σ l xs → ArgR K G H σ (.inr t :: l) (x :: xs)
section
variable {K : PySem.W.Frag} {sh : Nat → Sh} {Wx : WX} {W : Addr → Prop} {X : List Addr} {Fm Fm1 : Nat → List Addr} {H H1 : Hp} {σ : L2.St} {δ : Dl} {r : Rs} {Q : VK}
theorem Xt.gw {X X' : List Addr} {Fm' : Nat → List Addr} {H' : Hp} (x : Xt (Om Fm) (Om Fm') H H') (hx : ∀ a ∈ X', a ∈ X) : ∀ a, Gw X' Fm' W a → Gw X Fm W a ∨ H a = none := fun a z => z.elim (fun q => q.elim (fun w => .inl (.inl (.inl (hx a w)))) fun w => (x.2 a w).imp (fun y => .inl (.inr y)) id) fun q => .inl (.inr q)
theorem Df.xt {Fm' : Nat → List Addr} {H' : Hp} {v : V} {t : T} (x : Xt (Om Fm) (Om Fm') H H') (h : Df K (Gw X Fm W) H v t) : Df K (Gw X Fm' W) H' v t :=
  h.step x.1 (fun a z => .inl (.inl (.inr z))) (x.gw fun _ z => z)
theorem ArgR.xt {Fm' : Nat → List Addr} {H' : Hp} (x : Xt (Om Fm) (Om Fm') H H') : ∀ {l : List (Nat ⊕ T)} {xs : List V}, ArgR K (Gw X Fm W) H σ l xs → ArgR K (Gw X Fm' W) H' σ l xs
  | _, _, .nil => .nil
  | _, _, .var h r => .var h (ArgR.xt x r)
  | _, _, .val h r => .val (h.xt x) (ArgR.xt x r)
end
/-! ### operations -/
inductive VwL (K : PySem.W.Frag) (G : Addr → Prop) (H : Hp) : List V → List T → Prop
  | nil : VwL K G H [] []
  | cons {v : V} {t : T} {vs : List V} {ts : List T} : Vw K G H v t → VwL K G H vs ts → VwL K G H (v :: vs) (t :: ts)
def opn (op : List T → Option T) (os : List Opd) : Dl → Rs := fun δ => match runs os δ with
  | none => none
  | some (.error e, δ') => some (.error e, δ')
  | some (.ok l, δ') => match res l δ' with
    | none => none
    | some ts => match op ts with
      | none => none
      | some c => some (.ok c, δ')
/-- a rule over values does what op does over trees -/
def DOp (K : PySem.W.Frag) (r : List V → Hp → VK → Prop) (op : List T → Option T) : Prop := ∀ (G : Addr → Prop) (H : Hp) (xs : List V) (ts : List T) (c : T) (Q : VK), VwL K G H xs ts → op ts = some c → (∀ a, G a → H a ≠ none) →
  (∀ z H', EdP noA H H' → Df K G H' z c → Q z H') → r xs H Q
/-- .. and makes a new list, dict or object -/
def DNew (K : PySem.W.Frag) (r : List V → Hp → VK → Prop) (op : List T → Option T) : Prop := ∀ (G : Addr → Prop) (H : Hp) (xs : List V) (ts : List T) (c : T) (Q : VK), VwL K G H xs ts → op ts = some c → (∀ a, G a → H a ≠ none) →
  (∀ p vs H', H p = none → EdP noA H H' → Cell K H' p c vs → DfL K (fun a => a = p ∨ G a) H' vs c.kids → Q (.ref p) H') → r xs H Q
theorem DNew.op {K : PySem.W.Frag} {r : List V → Hp → VK → Prop} {op : List T → Option T} (h : DNew K r op) : DOp K r op := fun G H xs ts c Q v e al q =>
  h G H xs ts c Q v e al fun p vs H' hp ed ce df => q _ _ ed (.nd (fun z => al p z hp) ce.r (df.weak fun a z => .inr z))
def inls : List (Nat ⊕ T) → List Nat
  | [] => []
  | .inl i :: r => i :: inls r
  | .inr _ :: r => inls r
section
variable {K : PySem.W.Frag} {sh : Nat → Sh} {Wx : WX} {W : Addr → Prop} {X : List Addr} {Fm Fm1 : Nat → List Addr} {H H1 : Hp} {σ : L2.St} {δ : Dl} {r : Rs} {Q : VK}
theorem flat_pln {s : Sh} (h : s.flat = true) : s.pln = true := by cases s <;> first | rfl | cases h
theorem ArgR.vw (f : Fr K sh W X Fm H σ δ) : ∀ {l : List (Nat ⊕ T)} {xs : List V} {ts : List T}, ArgR K (Gw X Fm W) H σ l xs → (∀ i ∈ inls l, (sh i).flat = true) → res l δ = some ts → VwL K (Gw X Fm W) H xs ts
  | _, _, _, .nil, _, e => by cases e; exact .nil
  | _, _, ts, .var (i := i) hv r, hf, e => by
    unfold res at e
    split at e
    · rename_i t ts' q1 q2
      cases e
      obtain ⟨v, h1, h2⟩ := f.rel i t q1
      rw [hv] at h1
      cases h1
      exact .cons ((h2.own (flat_pln (hf i (List.mem_cons_self ..)))).vw (hf i (List.mem_cons_self ..))) (ArgR.vw f r (fun j z => hf j (List.mem_cons_of_mem _ z)) q2)
    · cases e
  | _, _, ts, .val h r, hf, e => by
    unfold res at e
    split at e
    · rename_i ts' q
      cases e
      exact .cons h.vw (ArgR.vw f r hf q)
    · cases e
/-- quiet is enough -/
theorem TQ.tf {f : Dl → Option T} (h : TF K sh Wx (qE f) σ H Q) : TQ K sh .fz f σ H Q := by
  obtain ⟨W, X, Fm, δ, fr, h⟩ := h
  unfold qE at h
  cases e : f δ with
  | none => simp only [e] at h; exact h.elim
  | some t =>
    simp only [e] at h
    exact ⟨W, X, Fm, δ, t, fr, e, fun x H' ed d => h x H' Fm (fr.ed0 ed) ed.xt0 d⟩
end
end NQ
namespace NQ
open PySem L2
/-! ### expressions by their operands -/
def tAll : List TE → TA
  | [] => tNil
  | t :: r => tCons t (tAll r)
inductive PEs (X : Cx) : List Expr → List TE → Prop
  | nil : PEs X [] []
  | cons {e : Expr} {es : List Expr} {t : TE} {ts : List TE} : PE X e t → PEs X es ts → starEach (e :: es) X.env = (false, eval e X.env) :: starEach es X.env → PEs X (e :: es) (t :: ts)
theorem PEs.c {X : Cx} {e : Expr} {es : List Expr} {t : TE} {ts : List TE} (h : PE X e t) (r : PEs X es ts) (hs : starEach (e :: es) X.env = (false, eval e X.env) :: starEach es X.env := by rfl) : PEs X (e :: es) (t :: ts) := .cons h r hs
theorem PEs.pa {X : Cx} : ∀ {es : List Expr} {ts : List TE}, PEs X es ts → PA X es (tAll ts)
  | _, _, .nil => pa_nil
  | _, _, .cons h r s => pa_cons h (PEs.pa r) s
abbrev RV := List V → Hp → VK → Prop
/-- e makes its operands from the left, then does what r tells -/
def Con (X : Cx) (e : Expr) (es : List Expr) (r : RV) : Prop := ∀ ts, PEs X es ts → PE X e fun σ H Q => tAll ts σ H fun xs H' => r xs H' Q
def ConT (X : Cx) (e : Expr) (es : List Expr) (r : RV) : Prop := ∀ ts, PEs X es ts → PT X e fun σ H Q => tAll ts σ H fun xs H' => r xs H' fun x H'' => ∃ k, x = .bl k ∧ Q k H''
def r1 (r : V → Hp → VK → Prop) : RV := fun xs H Q => match xs with
  | [x] => r x H Q
  | _ => False
def r2 (r : R2) : RV := fun xs H Q => match xs with
  | [x, y] => r x y H Q
  | _ => False
section
variable {X : Cx} {a b : Expr} {pos : Pos} {r : R2}
end
/-! ### what rules do over trees -/
/-- operands by what they stand for alone; the outcome lies apart from all that was -/
def DRd (K : PySem.W.Frag) (r : RV) (op : List T → Option T) : Prop := ∀ (H : Hp) (xs : List V) (ts : List T) (c : T) (Q : VK), RpL K H xs ts → op ts = some c →
  (∀ z H', EdP noA H H' → (∀ G : Addr → Prop, (∀ a, G a → H a ≠ none) → Df K G H' z c) → Q z H') → r xs H Q
theorem VwL.rp {K : PySem.W.Frag} {G : Addr → Prop} {H : Hp} : ∀ {vs : List V} {ts : List T}, VwL K G H vs ts → RpL K H vs ts
  | _, _, .nil => .nil
  | _, _, .cons h r => .cons h.rp (VwL.rp r)
theorem DRd.op {K : PySem.W.Frag} {r : RV} {op : List T → Option T} (h : DRd K r op) : DOp K r op := fun G H xs ts c Q v e al q => h H xs ts c Q v.rp e fun z H' ed d => q z H' ed (d G al)
abbrev Op := List T → Option T
def altT (f g : Op) : Op := fun ts => match f ts with
  | some c => some c
  | none => g ts
inductive CoR (X : Cx) (K : PySem.W.Frag) (e : Expr) (es : List Expr) : Op → Prop
  | one {r : RV} {op : Op} : Con X e es r → DRd K r op → CoR X K e es op
  | alt {f g : Op} : CoR X K e es f → CoR X K e es g → CoR X K e es (altT f g)
inductive Co (X : Cx) (K : PySem.W.Frag) (e : Expr) (es : List Expr) : Op → Prop
  | one {r : RV} {op : Op} : Con X e es r → DOp K r op → Co X K e es op
  | alt {f g : Op} : Co X K e es f → Co X K e es g → Co X K e es (altT f g)
inductive CoRT (X : Cx) (K : PySem.W.Frag) (e : Expr) (es : List Expr) : Op → Prop
  | one {r : RV} {op : Op} : ConT X e es r → DRd K r op → (∀ ts c, op ts = some c → ∃ b, c = .bl b) → CoRT X K e es op
  | alt {f g : Op} : CoRT X K e es f → CoRT X K e es g → CoRT X K e es (altT f g)
theorem CoR.co {X : Cx} {K : PySem.W.Frag} {e : Expr} {es : List Expr} {op : Op} (h : CoR X K e es op) : Co X K e es op := by
  induction h with
  | one c d => exact .one c d.op
  | alt _ _ h1 h2 => exact .alt h1 h2
/-- new lists, dicts -/
inductive CoN (X : Cx) (K : PySem.W.Frag) (e : Expr) (es : List Expr) : Op → Prop
  | one {r : RV} {op : Op} : Con X e es r → DNew K r op → (∀ ts c, op ts = some c → (Sh.all .fz).kids c = some (c.kids.map fun _ => .fz)) → CoN X K e es op
  | alt {f g : Op} : CoN X K e es f → CoN X K e es g → CoN X K e es (altT f g)
theorem CoN.co {X : Cx} {K : PySem.W.Frag} {e : Expr} {es : List Expr} {op : Op} (h : CoN X K e es op) : Co X K e es op := by
  induction h with
  | one c d k => exact .one c d.op
  | alt _ _ h1 h2 => exact .alt h1 h2
/-! ### quiet operands -/
abbrev Qf := Dl → Option T
def evq : List Qf → Dl → Option (List T)
  | [], _ => some []
  | f :: r, δ => match f δ with
    | none => none
    | some t => match evq r δ with
      | none => none
      | some ts => some (t :: ts)
def opq (op : Op) (fs : List Qf) : Qf := fun δ => match evq fs δ with
  | none => none
  | some ts => op ts
inductive RmL (K : PySem.W.Frag) (X : List Addr) (Fm : Nat → List Addr) (W : Addr → Prop) (H : Hp) : List Md → List V → List T → Prop
  | nil : RmL K X Fm W H [] [] []
  | cons {m : Md} {ms : List Md} {v : V} {t : T} {vs : List V} {ts : List T} : Rm K X Fm W H m v t → RmL K X Fm W H ms vs ts → RmL K X Fm W H (m :: ms) (v :: vs) (t :: ts)
section
variable {K : PySem.W.Frag} {sh : Nat → Sh} {Wx : WX} {W : Addr → Prop} {X : List Addr} {Fm Fm1 : Nat → List Addr} {H H' H1 : Hp} {σ : L2.St} {δ : Dl} {Q : VK}
mutual
theorem Rp.ed0 (e : EdP noA H H') : ∀ {v : V} {t : T}, Rp K H v t → Rp K H' v t
  | _, _, .sc h => .sc h
  | _, _, .nd c r => .nd (c.keep fun o q => e.1 _ _ (fun z => z) q) (RpL.ed0 e r)
theorem RpL.ed0 (e : EdP noA H H') : ∀ {vs : List V} {ts : List T}, RpL K H vs ts → RpL K H' vs ts
  | _, _, .nil => .nil
  | _, _, .cons h r => .cons (Rp.ed0 e h) (RpL.ed0 e r)
end
theorem Vw.ed0 {G : Addr → Prop} {v : V} {t : T} (e : EdP noA H H') (h : Vw K G H v t) : Vw K G H' v t := by
  rcases h with h | ⟨a, vs, h1, h2, h3⟩
  · exact .inl h
  · exact .inr ⟨a, vs, h1, h2.keep fun o q => e.1 _ _ (fun z => z) q, h3.ed0 e⟩
theorem Rm.ed0 {m : Md} {v : V} {t : T} (e : EdP noA H H') (h : Rm K X Fm W H m v t) : Rm K X Fm W H' m v t := by
  cases m with
  | fz => exact Df.ed0 e h
  | vw => exact Df.ed0 e h
  | ch => exact Vw.ed0 e h
  | rd => exact Rp.ed0 e h
theorem Rm.rp {m : Md} {v : V} {t : T} (h : Rm K X Fm W H m v t) : Rp K H v t := by
  cases m with
  | fz => exact Df.rp h
  | vw => exact Df.rp h
  | ch => exact Vw.rp h
  | rd => exact h
theorem RmL.rp : ∀ {ms : List Md} {vs : List V} {ts : List T}, RmL K X Fm W H ms vs ts → RpL K H vs ts
  | _, _, _, .nil => .nil
  | _, _, _, .cons h r => .cons h.rp (RmL.rp r)
def chL (ms : List Md) : Bool := ms.all fun m => match m with | .fz => true | .ch => true | _ => false
def vwL (ms : List Md) : Bool := ms.all fun m => match m with | .fz => true | .vw => true | _ => false
theorem RmL.ch : ∀ {ms : List Md} {vs : List V} {ts : List T}, chL ms = true → RmL K X Fm W H ms vs ts → VwL K (Gw X Fm W) H vs ts
  | _, _, _, _, .nil => .nil
  | m :: ms, _, _, z, .cons h r => by
    unfold chL at z
    rw [List.all_cons, Bool.and_eq_true] at z
    refine .cons ?_ (RmL.ch z.2 r)
    cases m with
    | fz => exact Df.vw h
    | ch => exact h
    | vw => exact absurd z.1 Bool.false_ne_true
    | rd => exact absurd z.1 Bool.false_ne_true
theorem RmL.vw : ∀ {ms : List Md} {vs : List V} {ts : List T}, vwL ms = true → RmL K X Fm W H ms vs ts → VwL K (Gm X Fm) H vs ts
  | _, _, _, _, .nil => .nil
  | m :: ms, _, _, z, .cons h r => by
    unfold vwL at z
    rw [List.all_cons, Bool.and_eq_true] at z
    refine .cons ?_ (RmL.vw z.2 r)
    cases m with
    | fz => exact Df.vw (Df.weak (fun a q => .inl q) h)
    | vw => exact Df.vw h
    | ch => exact absurd z.1 Bool.false_ne_true
    | rd => exact absurd z.1 Bool.false_ne_true
theorem RmL.ed0 (e : EdP noA H H') : ∀ {ms : List Md} {vs : List V} {ts : List T}, RmL K X Fm W H ms vs ts → RmL K X Fm W H' ms vs ts
  | _, _, _, .nil => .nil
  | _, _, _, .cons h r => .cons (h.ed0 e) (RmL.ed0 e r)
end
section
variable {X : Cx} {K : PySem.W.Frag} {sh : Nat → Sh} {Wx : WX} {e : Expr} {es : List Expr} {op : Op} {l : List (Md × Qf)} {os : List Opd}
/-! ### slots, written things, coercions -/
end
end NQ
namespace NQ
open PySem L2
/-! ### operands that are stored: lists, tuples written out -/
section
variable {K : PySem.W.Frag} {sh : Nat → Sh} {Wx : WX} {W : Addr → Prop} {X : List Addr} {Fm Fm1 : Nat → List Addr} {H H' H1 : Hp} {σ : L2.St} {δ : Dl} {Q : VK}
theorem RmL.df : ∀ {ms : List Md} {vs : List V} {ts : List T}, (ms.all fun m => match m with | .fz => true | _ => false) = true → RmL K X Fm W H ms vs ts → DfL K (Gw X Fm W) H vs ts
  | _, _, _, _, .nil => .nil
  | m :: ms, _, _, z, .cons h r => by
    rw [List.all_cons, Bool.and_eq_true] at z
    refine .cons ?_ (RmL.df z.2 r)
    cases m with
    | fz => exact h
    | ch => exact absurd z.1 Bool.false_ne_true
    | vw => exact absurd z.1 Bool.false_ne_true
    | rd => exact absurd z.1 Bool.false_ne_true
theorem RmL.dv : ∀ {ms : List Md} {vs : List V} {ts : List T}, vwL ms = true → RmL K X Fm W H ms vs ts → DfL K (Gm X Fm) H vs ts
  | _, _, _, _, .nil => .nil
  | m :: ms, _, _, z, .cons h r => by
    unfold vwL at z
    rw [List.all_cons, Bool.and_eq_true] at z
    refine .cons ?_ (RmL.dv z.2 r)
    cases m with
    | fz => exact Df.weak (fun a q => .inl q) h
    | vw => exact h
    | ch => exact absurd z.1 Bool.false_ne_true
    | rd => exact absurd z.1 Bool.false_ne_true
theorem ArgR.df : ∀ {l : List (Nat ⊕ T)} {xs : List V} {ts : List T}, ArgR K (Gw X Fm W) H σ l xs → inls l = [] → res l δ = some ts → DfL K (Gw X Fm W) H xs ts
  | _, _, _, .nil, _, e => by cases e; exact .nil
  | _, _, ts, .var (i := i) hv r, hf, e => by cases hf
  | _, _, ts, .val h r, hf, e => by
    unfold res at e
    split at e
    · rename_i ts' q
      cases e
      exact .cons h (ArgR.df r hf q)
    · cases e
end
section
variable {X : Cx} {K : PySem.W.Frag} {sh : Nat → Sh} {Wx : WX} {e : Expr} {es : List Expr} {op : Op} {l : List (Md × Qf)} {os : List Opd} {rr : RV}
def lstT : Op := fun ts => if ts.length ≤ sizeLine then some (.lst ts) else none
def tupT : Op := fun ts => if ts.length ≤ sizeLine then some (.tup ts) else none
end
end NQ
namespace NQ
open PySem L2
/-! ### signs that are signs -/
theorem sok_iff {s : Str} : PyData.strOk s = true ↔ ∀ c ∈ s.cps.toList, c < 0x110000 := by
  unfold PyData.strOk
  rw [← Array.all_toList, List.all_eq_true]
  simp
theorem sok_app {a b : Str} (h1 : PyData.strOk a = true) (h2 : PyData.strOk b = true) : PyData.strOk (a ++ b) = true := sok_iff.mpr fun c hc => by
  have e : (a ++ b).cps.toList = a.cps.toList ++ b.cps.toList := by
    show (a.cps ++ b.cps).toList = _
    rw [Array.toList_append]
  rw [e] at hc
  exact (List.mem_append.mp hc).elim (sok_iff.mp h1 c) (sok_iff.mp h2 c)
theorem sok_asc {x : Str} (h : ∀ c ∈ x.cps.toList, c ≤ 127) : PyData.strOk x = true := sok_iff.mpr fun c hc => Nat.lt_of_le_of_lt (h c hc) (by decide)
theorem sok_of (s : String) : PyData.strOk (Str.ofString s) = true := sok_iff.mpr fun c hc => by
  rw [Str.ofString_eq_toList] at hc
  simp only [List.mem_map] at hc
  obtain ⟨d, _, rfl⟩ := hc
  have := d.valid
  show d.val.toNat < 0x110000
  rcases this with h | h
  · exact Nat.lt_trans h (by decide)
  · exact h.2
theorem sok_empty : PyData.strOk Str.empty = true := by decide +kernel
/-! ### what scalars are -/
section
variable {K : PySem.W.Frag} {H : Hp} {x : V} {i : Int} {s : Str} {b : Bool}
theorem Rp.int (h : Rp K H x (.int i)) : x = .int i := h.isS rfl
theorem Rp.bl (h : Rp K H x (.bl b)) : x = .bl b := h.isS rfl
theorem Rp.non (h : Rp K H x .non) : x = .non := h.isS rfl
theorem Rp.str (h : Rp K H x (.str s)) : x = .str s ∧ PyData.strOk s = true := by
  cases h with
  | sc h => exact h
  | nd c _ => exact c.elim
theorem Rp.ty {n : String} (h : Rp K H x (.ty n)) : x = .ty n := by
  cases h with
  | sc h => exact h
  | nd c _ => exact c.elim
theorem Rp.gl {n : Str} (h : Rp K H x (.gl n)) : x = .ref (He.ga K n) := by
  cases h with
  | sc h => exact h
  | nd c _ => exact c.elim
theorem Rp.lst {ts : List T} (h : Rp K H x (.lst ts)) : ∃ a vs, x = .ref a ∧ SqL K H a vs ∧ RpL K H vs ts := by
  cases h with
  | sc h => exact h.elim
  | nd c r => exact ⟨_, _, rfl, .inl c, r⟩
theorem RpL.sv : ∀ {ts : List T}, ts.all T.isS = true → RpL K H (ts.map T.sv) ts := fun h => (DfL.sv (G := noA) h).rp
theorem Rp.tup {ts : List T} (h : Rp K H x (.tup ts)) : ∃ a vs, x = .ref a ∧ SqT K H a vs ∧ RpL K H vs ts := by
  cases h with
  | sc h => exact h.elim
  | nd c r => exact ⟨_, _, rfl, SqT.of c, r⟩
theorem Rp.ctup {ts : List T} (h : Rp K H x (.ctup ts)) : ∃ a vs, x = .ref a ∧ SqT K H a vs ∧ RpL K H vs ts ∧ ts.all T.isS = true := by
  cases h with
  | sc h =>
    obtain ⟨a, e, h, z⟩ := h
    exact ⟨a, _, e, h H, RpL.sv z, z⟩
  | nd c r => exact c.elim
theorem Rp.clst {ts : List T} (h : Rp K H x (.clst ts)) : ∃ a vs, x = .ref a ∧ SqL K H a vs ∧ RpL K H vs ts ∧ ts.all T.isS = true := by
  cases h with
  | sc h =>
    obtain ⟨a, e, h, z⟩ := h
    exact ⟨a, _, e, h H, RpL.sv z, z⟩
  | nd c r => exact c.elim
theorem Rp.dic {ks : List Key} {ts : List T} (h : Rp K H x (.dic ks ts)) : ∃ a vs, x = .ref a ∧ ks.length = vs.length ∧ Rd H a (.dK (ks.zip vs)) ∧ RpL K H vs ts := by
  cases h with
  | sc h => exact h.elim
  | nd c r => exact ⟨_, _, rfl, c.1, c.2, r⟩
theorem Rp.dit {ks : List (List Key)} {ts : List T} (h : Rp K H x (.dit ks ts)) : ∃ a vs, x = .ref a ∧ ks.length = vs.length ∧ Rd H a (.dT (ks.zip vs)) ∧ RpL K H vs ts := by
  cases h with
  | sc h => exact h.elim
  | nd c r => exact ⟨_, _, rfl, c.1, c.2, r⟩
theorem RpL.one {t : T} {xs : List V} (h : RpL K H xs [t]) : ∃ x, xs = [x] ∧ Rp K H x t := by
  cases h with
  | cons h r => cases r; exact ⟨_, rfl, h⟩
theorem RpL.two {t u : T} {xs : List V} (h : RpL K H xs [t, u]) : ∃ x y, xs = [x, y] ∧ Rp K H x t ∧ Rp K H y u := by
  cases h with
  | cons h r =>
    obtain ⟨y, rfl, h2⟩ := r.one
    exact ⟨_, _, rfl, h, h2⟩
theorem RpL.at : ∀ {vs : List V} {ts : List T} {i : Nat} {t : T}, RpL K H vs ts → ts[i]? = some t → ∃ v, vs[i]? = some v ∧ Rp K H v t
  | _, _, _, _, .nil, e => by simp at e
  | _, _, 0, _, .cons h _, e => by simp at e; subst e; exact ⟨_, rfl, h⟩
  | _, _, i + 1, _, .cons _ r, e => by
    obtain ⟨v, h1, h2⟩ := RpL.at r (i := i) (by simpa using e)
    exact ⟨v, by simpa using h1, h2⟩
end
theorem VwL.one {K : PySem.W.Frag} {G : Addr → Prop} {H : Hp} {t : T} {xs : List V} (h : VwL K G H xs [t]) : ∃ x, xs = [x] ∧ Vw K G H x t := by
  cases h with
  | cons h r => cases r; exact ⟨_, rfl, h⟩
theorem VwL.two {K : PySem.W.Frag} {G : Addr → Prop} {H : Hp} {t u : T} {xs : List V} (h : VwL K G H xs [t, u]) : ∃ x y, xs = [x, y] ∧ Vw K G H x t ∧ Vw K G H y u := by
  cases h with
  | cons h r =>
    obtain ⟨y, rfl, h2⟩ := r.one
    exact ⟨_, _, rfl, h, h2⟩
theorem Vw.lst {K : PySem.W.Frag} {G : Addr → Prop} {H : Hp} {x : V} {ts : List T} (h : Vw K G H x (.lst ts)) : ∃ a vs, x = .ref a ∧ Rd H a (.lst vs) ∧ DfL K G H vs ts := by
  rcases h with h | ⟨a, vs, rfl, c, r⟩
  · exact h.elim
  · exact ⟨a, vs, rfl, c, r⟩
theorem Vw.tup {K : PySem.W.Frag} {G : Addr → Prop} {H : Hp} {x : V} {ts : List T} (h : Vw K G H x (.tup ts)) : ∃ a vs, x = .ref a ∧ H a = some (.tup vs) ∧ DfL K G H vs ts := by
  rcases h with h | ⟨a, vs, rfl, c, r⟩
  · exact h.elim
  · exact ⟨a, vs, rfl, c, r⟩
/-! ### numbers and texts -/
def addR : Op
  | [.int i, .int j] => some (.int (i + j))
  | [.str a, .str b] => if a.length + b.length ≤ sizeLine then some (.str (a ++ b)) else none
  | _ => none
def subT : Op
  | [.int i, .int j] => some (.int (i - j))
  | _ => none
def mulR : Op
  | [.int i, .int j] => if (-(2 ^ 64) < i ∧ i < 2 ^ 64) ∨ (-(2 ^ 64) < j ∧ j < 2 ^ 64) ∨ i.natAbs.log2 + j.natAbs.log2 < 1000000 then some (.int (i * j)) else none
  | [.str a, .int n] => if -(2 ^ 20) < n ∧ n < 2 ^ 20 ∧ a.length * n.toNat ≤ 1000000 then some (.str (Txt.mul a n)) else none
  | _ => none
def modT : Op
  | [.int i, .int j] => if 0 < j then some (.int (i % j)) else none
  | _ => none
def divT : Op
  | [.int i, .int j] => if 0 < j ∧ j.natAbs.log2 < 9000 then some (.int (i / j)) else none
  | _ => none
def powT : Op
  | [.int i, .int j] => if 0 ≤ j ∧ j ≤ 1000000 ∧ i.natAbs < 2 ^ 64 then some (.int (i ^ j.toNat)) else none
  | _ => none
def cmpT (f : Int → Int → Bool) : Op
  | [.int i, .int j] => some (.bl (f i j))
  | _ => none
def negT : Op
  | [.int i] => some (.int (-i))
  | _ => none
section
variable {K : PySem.W.Frag}
/-! ### == and != -/
mutual
def T.pd : T → Option PyData
  | .non => some .none
  | .bl b => some (.bool b)
  | .int i => some (.int i)
  | .str s => some (.str s)
  | .lst ts => match pdL ts with | some ds => some (.list ds) | none => none
  | .tup ts => match pdL ts with | some ds => some (.tuple ds) | none => none
  | .ctup ts => match pdL ts with | some ds => some (.tuple ds) | none => none
  | .dic _ _ => none | .dit _ _ => none | .ins _ _ _ => none | .gl _ => none | .ty _ => none | .clst _ => none
def pdL : List T → Option (List PyData)
  | [] => some []
  | t :: r => match t.pd, pdL r with
    | some d, some ds => some (d :: ds)
    | _, _ => none
end
end
mutual
theorem Rp.dp {K : PySem.W.Frag} {H : Hp} : ∀ {t : T} {x : V} {d : PyData}, Rp K H x t → t.pd = some d → Dp K H x d ∧ d.canLay0 = true
  | .non, _, _, h, e => by cases e; cases h.non; exact ⟨.non, by simp [PyData.canLay0]⟩
  | .bl b, _, _, h, e => by cases e; cases h.bl; exact ⟨.bl b, by simp [PyData.canLay0]⟩
  | .int i, _, _, h, e => by cases e; cases h.int; exact ⟨.int i, by simp [PyData.canLay0]⟩
  | .str s, _, _, h, e => by
    cases e
    obtain ⟨rfl, s1⟩ := h.str
    exact ⟨.str s, by simp [PyData.canLay0, s1]⟩
  | .lst ts, _, _, h, e => by
    unfold T.pd at e
    cases q : pdL ts with
    | none => rw [q] at e; cases e
    | some ds =>
      rw [q] at e
      cases e
      obtain ⟨a, vs, rfl, h1, h2⟩ := h.lst
      obtain ⟨k1, k2⟩ := RpL.dp h2 q
      exact ⟨.lst h1 k1, by simp only [PyData.canLay0, k2]⟩
  | .tup ts, _, _, h, e => by
    unfold T.pd at e
    cases q : pdL ts with
    | none => rw [q] at e; cases e
    | some ds =>
      rw [q] at e
      cases e
      obtain ⟨a, vs, rfl, h1, h2⟩ := h.tup
      obtain ⟨k1, k2⟩ := RpL.dp h2 q
      exact ⟨.tup h1 k1, by simp only [PyData.canLay0, k2]⟩
  | .ctup ts, _, _, h, e => by
    unfold T.pd at e
    cases q : pdL ts with
    | none => rw [q] at e; cases e
    | some ds =>
      rw [q] at e
      cases e
      obtain ⟨a, vs, rfl, h1, h2, _⟩ := h.ctup
      obtain ⟨k1, k2⟩ := RpL.dp h2 q
      exact ⟨.tup h1 k1, by simp only [PyData.canLay0, k2]⟩
  | .dic _ _, _, _, _, e => by cases e
  | .dit _ _, _, _, _, e => by cases e
  | .ins _ _ _, _, _, _, e => by cases e
  | .gl _, _, _, _, e => by cases e
  | .ty _, _, _, _, e => by cases e
theorem RpL.dp {K : PySem.W.Frag} {H : Hp} : ∀ {ts : List T} {xs : List V} {ds : List PyData}, RpL K H xs ts → pdL ts = some ds → DpAll K H xs ds ∧ PyData.canLayAll0 ds = true
  | [], _, _, h, e => by cases e; cases h; exact ⟨.nil, by simp [PyData.canLayAll0]⟩
  | t :: r, _, _, h, e => by
    unfold pdL at e
    cases h with
    | cons h1 h2 =>
      split at e
      · rename_i d ds q1 q2
        cases e
        obtain ⟨k1, k2⟩ := Rp.dp h1 q1
        obtain ⟨k3, k4⟩ := RpL.dp h2 q2
        exact ⟨.cons k1 k3, by simp [PyData.canLayAll0, k2, k4]⟩
      · cases e
end
/-- == over trees -/
def eqB (a b : T) : Option Bool := match a.pd, b.pd with
  | some d, some e => if d.depth ≤ 60 ∧ e.depth ≤ 60 then some (PyData.eqv d e) else none
  | _, _ => none
def eqT : Op
  | [a, b] => match eqB a b with | some b => some (.bl b) | none => none
  | _ => none
def neT : Op
  | [a, b] => match eqB a b with | some b => some (.bl (!b)) | none => none
  | _ => none
section
variable {K : PySem.W.Frag}
/-! ### is None -/
def T.isN : T → Bool
  | .non => true
  | _ => false
def isNT : Op
  | [a, .non] => some (.bl a.isN)
  | _ => none
def notNT : Op
  | [a, .non] => some (.bl (!a.isN))
  | _ => none
theorem Rp.isN {H : Hp} {x : V} {t : T} (h : Rp K H x t) : decide (x = .non) = t.isN := by
  cases h with
  | sc h =>
    cases t <;> first
      | (cases h; rfl)
      | (obtain ⟨rfl, _⟩ := h; rfl)
      | exact h.elim
      | (obtain ⟨_, rfl, _⟩ := h; rfl)
  | nd c _ => cases t <;> first
      | rfl
      | exact c.elim
/-! ### in -/
def inS (t : T) (ts : List T) : Bool := inV t.sv (ts.map T.sv)
/-- is it in: a list, a tuple, a text -/
def memB (x c : T) : Option Bool := match c with
  | .lst ts => if x.isS = true ∧ ts.all T.isS = true then some (inS x ts) else none
  | .tup ts => if x.isS = true ∧ ts.all T.isS = true then some (inS x ts) else none
  | .ctup ts => if x.isS = true then some (inS x ts) else none
  | .str z => match x with
    | .str s => match s.cps.toList with
      | [c] => some (decide (c ∈ z.cps.toList))
      | _ => none
    | _ => none
  | _ => none
def inT : Op
  | [x, c] => match memB x c with | some b => some (.bl b) | none => none
  | _ => none
def ninT : Op
  | [x, c] => match memB x c with | some b => some (.bl (!b)) | none => none
  | _ => none
end
end NQ
namespace NQ
open PySem L2
section
variable {K : PySem.W.Frag} {G : Addr → Prop} {H : Hp}
/-! ### a[i] -/
def seqT : T → Option (List T)
  | .lst ts => some ts
  | .tup ts => some ts
  | .ctup ts => some ts
  | .clst ts => some ts
  | _ => none
def ixR : Op
  | [a, .int i] => match a with
    | .str z => if z.length ≤ sizeLine then (match atI z.cps.toList i with | some c => some (.str ⟨#[c]⟩) | none => none) else none
    | a => match seqT a with
      | some ts => match atI ts i with
        | some t => if t.isS then some t else none
        | none => none
      | none => none
  | _ => none
def ixD : Op
  | [.lst ts, .int i] => atI ts i
  | [.tup ts, .int i] => atI ts i
  | _ => none
theorem Rp.seq {x : V} {a : T} {ts : List T} (h : Rp K H x a) (e : seqT a = some ts) : ∃ p vs, x = .ref p ∧ (SqL K H p vs ∨ SqT K H p vs) ∧ RpL K H vs ts := by
  unfold seqT at e
  split at e <;> cases e
  · obtain ⟨p, vs, rfl, h1, h2⟩ := h.lst; exact ⟨p, vs, rfl, .inl h1, h2⟩
  · obtain ⟨p, vs, rfl, h1, h2⟩ := h.tup; exact ⟨p, vs, rfl, .inr h1, h2⟩
  · obtain ⟨p, vs, rfl, h1, h2, _⟩ := h.ctup; exact ⟨p, vs, rfl, .inr h1, h2⟩
  · obtain ⟨p, vs, rfl, h1, h2, _⟩ := h.clst; exact ⟨p, vs, rfl, .inl h1, h2⟩
/-! ### dicts: d[k], k in d -/
def T.key : T → Option Key
  | .int i => some (.inl i)
  | .str s => some (.inr s)
  | _ => none
def keysT : List T → Option (List Key)
  | [] => some []
  | t :: r => match t.key, keysT r with
    | some k, some ks => some (k :: ks)
    | _, _ => none
/-- the value at the key k -/
def lookT {κ : Type} [DecidableEq κ] (ks : List κ) (ts : List T) (k : κ) : Option T := match ks, ts with
  | a :: ks, t :: ts => if a = k then some t else lookT ks ts k
  | _, _ => none
def dlook (d k : T) : Option (Option T) := match d with
  | .dic ks ts => match k.key with
    | some k => some (lookT ks ts k)
    | none => none
  | .dit ks ts => match k with
    | .tup us => match keysT us with
      | some k => some (lookT ks ts k)
      | none => none
    | _ => none
  | _ => none
def dgetR : Op
  | [d, k] => match dlook d k with
    | some (some t) => if t.isS then some t else none
    | _ => none
  | _ => none
def dgetD : Op
  | [d, k] => match dlook d k with
    | some (some t) => some t
    | _ => none
  | _ => none
def dinT : Op
  | [k, d] => match dlook d k with | some o => some (.bl o.isSome) | none => none
  | _ => none
def dninT : Op
  | [k, d] => match dlook d k with | some o => some (.bl (!o.isSome)) | none => none
  | _ => none
/-! ### calls -/
def lenT : Op
  | [.str z] => if z.length ≤ sizeLine then some (.int z.length) else none
  | [a] => match seqT a with | some ts => some (.int ts.length) | none => none
  | _ => none
def intT : Op
  | [.int i] => some (.int i)
  | [.bl b] => some (.int (if b then 1 else 0))
  | [.str a] => match PySem.intText? a with
    | some n => if a.length ≤ 640 then some (.int n) else none
    | none => none
  | _ => none
def strT : Op
  | [.int i] => if i.natAbs.log2 < 1920 then some (.str (toString i)) else none
  | [.str a] => some (.str a)
  | _ => none
def absT : Op
  | [.int i] => some (.int (if i < 0 then -i else i))
  | _ => none
def maxT : Op
  | [.int i, .int j] => some (.int (if j > i then j else i))
  | _ => none
def minT : Op
  | [.int i, .int j] => some (.int (if j < i then j else i))
  | _ => none
/-! ### new lists, tuples -/
theorem Vw.seq {x : V} {a : T} {ts : List T} (h : Vw K G H x a) (e : seqT a = some ts) : ∃ p vs, x = .ref p ∧ (SqL K H p vs ∨ SqT K H p vs) ∧ DfL K G H vs ts := by
  unfold seqT at e
  split at e <;> cases e
  · obtain ⟨p, vs, rfl, h1, h2⟩ := h.lst; exact ⟨p, vs, rfl, .inl (.inl h1), h2⟩
  · obtain ⟨p, vs, rfl, h1, h2⟩ := h.tup; exact ⟨p, vs, rfl, .inr (SqT.of h1), h2⟩
  · obtain ⟨p, vs, rfl, h1, h2, h3⟩ := h.rp.ctup
    have := h2.svs h3
    subst this
    exact ⟨p, _, rfl, .inr h1, DfL.sv h3⟩
  · obtain ⟨p, vs, rfl, h1, h2, h3⟩ := h.rp.clst
    have := h2.svs h3
    subst this
    exact ⟨p, _, rfl, .inl h1, DfL.sv h3⟩
def listT : Op
  | [a] => match seqT a with | some ts => some (.lst ts) | none => none
  | _ => none
/-- list(text) -/
def listS : Op
  | [.str z] => if z.length ≤ sizeLine then some (.lst ((NL.sgn z).map T.str)) else none
  | _ => none
def tupleL : Op
  | [.lst ts] => some (.tup ts)
  | _ => none
def addL : Op
  | [.lst xs, .lst ys] => if xs.length + ys.length ≤ sizeLine then some (.lst (xs ++ ys)) else none
  | _ => none
end
end NQ
namespace NQ
open PySem L2
/-! ### operands that are looked at as they come -/
abbrev PV := V → Hp → Prop
def tAllC : List PV → List TE → TA
  | [], ts => tAll ts
  | P :: Ps, t :: ts => fun σ H Q => t σ H fun x H1 => P x H1 ∧ tAllC Ps ts σ H1 fun xs H2 => Q (x :: xs) H2
  | _ :: _, [] => tNil
/-- what is wanted may be weakened -/
def MonoE (t : TE) : Prop := ∀ (σ : L2.St) (H : Hp) (Q Q' : VK), (∀ x H', Q x H' → Q' x H') → t σ H Q → t σ H Q'
def ConC (X : Cx) (e : Expr) (es : List Expr) (Ps : List PV) (r : RV) : Prop := ∀ ts, PEs X es ts → (∀ t ∈ ts, MonoE t) → PE X e fun σ H Q => tAllC Ps ts σ H fun xs H' => r xs H' Q
inductive ChkL (K : PySem.W.Frag) : List PV → List T → Prop
  | nil {ts : List T} : ChkL K [] ts
  | cons {P : PV} {Ps : List PV} {t : T} {ts : List T} : (∀ H x, Rp K H x t → P x H) → ChkL K Ps ts → ChkL K (P :: Ps) (t :: ts)
abbrev Chk (K : PySem.W.Frag) (Ps : List PV) (op : Op) : Prop := ∀ ts c, op ts = some c → ChkL K Ps ts
inductive CoC (X : Cx) (K : PySem.W.Frag) (e : Expr) (es : List Expr) : Op → Prop
  | one {Ps : List PV} {r : RV} {op : Op} : ConC X e es Ps r → DOp K r op → Chk K Ps op → CoC X K e es op
  | alt {f g : Op} : CoC X K e es f → CoC X K e es g → CoC X K e es (altT f g)
inductive CoCR (X : Cx) (K : PySem.W.Frag) (e : Expr) (es : List Expr) : Op → Prop
  | one {Ps : List PV} {r : RV} {op : Op} : ConC X e es Ps r → DRd K r op → Chk K Ps op → CoCR X K e es op
  | alt {f g : Op} : CoCR X K e es f → CoCR X K e es g → CoCR X K e es (altT f g)
theorem CoCR.co {X : Cx} {K : PySem.W.Frag} {e : Expr} {es : List Expr} {op : Op} (h : CoCR X K e es op) : CoC X K e es op := by
  induction h with
  | one c d k => exact .one c d.op k
  | alt _ _ h1 h2 => exact .alt h1 h2
inductive CoCN (X : Cx) (K : PySem.W.Frag) (e : Expr) (es : List Expr) : Op → Prop
  | one {Ps : List PV} {r : RV} {op : Op} : ConC X e es Ps r → DNew K r op → (∀ ts c, op ts = some c → (Sh.all .fz).kids c = some (c.kids.map fun _ => .fz)) → Chk K Ps op → CoCN X K e es op
theorem TQ.mono {K : PySem.W.Frag} {sh : Nat → Sh} {m : Md} {f : Qf} : MonoE (TQ K sh m f) := fun σ H Q Q' i ⟨W, Y, Fm, δ, t, f, e, k⟩ => ⟨W, Y, Fm, δ, t, f, e, fun x H' ed r => i _ _ (k x H' ed r)⟩
theorem Kf.mono {K : PySem.W.Frag} {sh : Nat → Sh} {Wx : WX} {W : Addr → Prop} {Y : List Addr} {Fm : Nat → List Addr} {σ : L2.St} {H : Hp} {r : Rs} {Q Q' : VK} (i : ∀ x H', Q x H' → Q' x H') (h : Kf K sh Wx W Y Fm σ H r Q) : Kf K sh Wx W Y Fm σ H r Q' := by
  unfold Kf at h ⊢
  split at h
  · exact h
  · exact fun x H' Fm' f k d => i _ _ (h x H' Fm' f k d)
  · exact h
theorem TF.mono {K : PySem.W.Frag} {sh : Nat → Sh} {Wx : WX} {f : Dl → Rs} : MonoE (TF K sh Wx f) := fun σ H Q Q' i ⟨W, Y, Fm, δ, f, k⟩ => ⟨W, Y, Fm, δ, f, k.mono i⟩
theorem TO.mono {K : PySem.W.Frag} {sh : Nat → Sh} {Wx : WX} : ∀ {o : Opd}, MonoE (TO K sh Wx o)
  | .var i => fun σ H Q Q' i ⟨v, e, h⟩ => ⟨v, e, i _ _ h⟩
  | .val f => TF.mono
theorem TQs.mono {K : PySem.W.Frag} {sh : Nat → Sh} {l : List (Md × Qf)} : ∀ t ∈ l.map fun p => TQ K sh p.1 p.2, MonoE t := fun t ht => by
  obtain ⟨p, _, rfl⟩ := List.mem_map.mp ht
  exact TQ.mono
theorem TOs.mono {K : PySem.W.Frag} {sh : Nat → Sh} {Wx : WX} {os : List Opd} : ∀ t ∈ os.map (TO K sh Wx), MonoE t := fun t ht => by
  obtain ⟨p, _, rfl⟩ := List.mem_map.mp ht
  exact TO.mono
theorem PEs.len {X : Cx} : ∀ {es : List Expr} {ts : List TE}, PEs X es ts → ts.length = es.length
  | _, _, .nil => rfl
  | _, _, .cons _ r _ => by rw [List.length_cons, List.length_cons, PEs.len r]
section
variable {K : PySem.W.Frag} {sh : Nat → Sh} {Wx : WX} {W : Addr → Prop} {Y : List Addr} {Fm Fm1 : Nat → List Addr} {H H' H1 : Hp} {σ : L2.St} {δ : Dl} {Q : VK}
end
/-- as opn, where no operand raises -/
def opnc (op : Op) (os : List Opd) : Dl → Rs := fun δ => match runs os δ with
  | some (.ok l, δ') => match res l δ' with
    | none => none
    | some ts => match op ts with
      | none => none
      | some c => some (.ok c, δ')
  | _ => none
section
variable {X : Cx} {K : PySem.W.Frag} {sh : Nat → Sh} {Wx : WX} {e : Expr} {es : List Expr} {op : Op} {l : List (Md × Qf)} {os : List Opd}
end
/-! ### methods of built-in types; parts -/
section
variable {X : Cx} {K : PySem.W.Frag} {a lo hi : Expr} {pos p2 : Pos}
variable {r : V → Option Int → Option Int → Hp → VK → Prop}
/-- the parts lo, hi behind the thing -/
def partsT (b1 b2 : Bool) : List T → Option (T × Option Int × Option Int)
  | [a, .int i, .int j] => if b1 && b2 then some (a, some i, some j) else none
  | [a, .int i] => if b1 && !b2 then some (a, some i, none) else if !b1 && b2 then some (a, none, some i) else none
  | _ => none
def cutT {α : Type} (ts : List α) (lo hi : Option Int) : List α := (ts.drop (HT.sIx ts.length 0 lo)).take (HT.sIx ts.length ts.length hi - HT.sIx ts.length 0 lo)
def slS (b1 b2 : Bool) : Op := fun ts => match partsT b1 b2 ts with
  | some (.str z, lo, hi) => if z.length ≤ sizeLine then some (.str (cutS z lo hi)) else none
  | _ => none
def slL (b1 b2 : Bool) : Op := fun ts => match partsT b1 b2 ts with
  | some (.lst us, lo, hi) => some (.lst (cutT us lo hi))
  | some (.clst us, lo, hi) => some (.lst (cutT us lo hi))
  | _ => none
end
end NQ
namespace NQ
open PySem L2
/-! ### texts -/
section
variable {K : PySem.W.Frag} {G : Addr → Prop} {H : Hp}
def strsT : List T → Option (List Str)
  | [] => some []
  | .str s :: r => match strsT r with | some l => some (s :: l) | none => none
  | _ :: _ => none
theorem strs_map (l : List Str) : strsT (l.map T.str) = some l := by
  induction l with
  | nil => rfl
  | cons s r ih => show (match strsT (r.map T.str) with | some l => some (s :: l) | none => none) = _; rw [ih]
theorem RpL.strs {l : List Str} {vs : List V} (h : RpL K H vs (l.map T.str)) : vs = l.map V.str ∧ ∀ s ∈ l, PyData.strOk s = true := by
  induction l generalizing vs with
  | nil => cases h; exact ⟨rfl, fun _ z => absurd z List.not_mem_nil⟩
  | cons s r ih =>
    cases h with
    | cons h1 h2 =>
      obtain ⟨rfl, k⟩ := h1.str
      obtain ⟨rfl, k2⟩ := ih h2
      refine ⟨rfl, fun x hx => ?_⟩
      rcases List.mem_cons.mp hx with rfl | hx
      · exact k
      · exact k2 x hx
theorem sok_join {a : Str} : ∀ {l : List Str}, PyData.strOk a = true → (∀ s ∈ l, PyData.strOk s = true) → PyData.strOk (Str.join a l) = true
  | [], _, _ => sok_empty
  | [x], _, h => h x (List.mem_cons_self ..)
  | x :: y :: r, h1, h => by
    show PyData.strOk (x ++ a ++ Str.join a (y :: r)) = true
    exact sok_app (sok_app (h x (List.mem_cons_self ..)) h1) (sok_join h1 fun s hs => h s (List.mem_cons_of_mem _ hs))
def joinT : Op
  | [.str a, c] => match seqT c with
    | some ts => match strsT ts with
      | some l => if (l.map (·.length)).sum + l.length * a.length ≤ 16777216 then some (.str (Txt.join a l)) else none
      | none => none
    | none => none
  | _ => none
def splitT : Op
  | [.str a, .str b] => if (b.length == 0) = false ∧ a.length + 2 ≤ sizeLine then some (.lst ((Txt.split a b).map T.str)) else none
  | _ => none
def wordsT : Op
  | [.str a] => if a.length + 2 ≤ sizeLine then some (.lst ((Txt.words a).map T.str)) else none
  | _ => none
def stripT : Op
  | [.str a] => if a.length ≤ sizeLine then some (.str (Txt.strip a)) else none
  | _ => none
/-! ### lists: + and * -/
def mulL : Op
  | [.lst xs, .int n] => if -(2 ^ 63) ≤ n ∧ n < 2 ^ 63 ∧ xs.length * n.toNat ≤ sizeLine then some (.lst (List.replicate n.toNat xs).flatten) else none
  | _ => none
end
/-! ### truth -/
def truT : T → Option Bool
  | .non => some false
  | .bl b => some b
  | .int i => some (i != 0)
  | .str z => if z.length ≤ sizeLine then some ((z.length : Int) != 0) else none
  | .lst ts => some (!ts.isEmpty)
  | .tup ts => some (!ts.isEmpty)
  | .ctup ts => some (!ts.isEmpty)
  | .dic ks ts => if ks.length = ts.length then some (!ts.isEmpty) else none
  | .dit ks ts => if ks.length = ts.length then some (!ts.isEmpty) else none
  | _ => none
def TruX (K : PySem.W.Frag) (x : V) (H : Hp) (k : Bool) : Prop := TruV K x H k ∨ ∃ p, x = .ref p ∧ ((∃ kvs, Rd H p (.dT kvs) ∧ k = !kvs.isEmpty) ∨ ∃ kvs, Rd H p (.dK kvs) ∧ k = !kvs.isEmpty)
theorem empty_len {α β : Type} {xs : List α} {ys : List β} (h : xs.length = ys.length) : (!xs.isEmpty) = !ys.isEmpty := by
  cases xs <;> cases ys <;> first | rfl | cases h
theorem empty_zip {α β γ : Type} {xs : List α} {ys : List β} {zs : List γ} (h : xs.length = ys.length) (h2 : ys.length = zs.length) : (!(xs.zip ys).isEmpty) = !zs.isEmpty := by
  cases xs <;> cases ys <;> cases zs <;> first | rfl | (exfalso; simp only [List.length_cons, List.length_nil] at h h2; omega)
theorem Rp.tru {K : PySem.W.Frag} {H : Hp} {x : V} {t : T} {b : Bool} (h : Rp K H x t) (e : truT t = some b) : TruX K x H b := by
  cases t with
  | non => cases e; cases h.non; exact .inl rfl
  | bl c => cases e; cases h.bl; exact .inl rfl
  | int i => cases e; cases h.int; exact .inl rfl
  | str z =>
    simp only [truT] at e
    split at e
    · rename_i hz
      cases e
      obtain ⟨rfl, _⟩ := h.str
      exact .inl ⟨hz, rfl⟩
    · cases e
  | lst ts =>
    cases e
    obtain ⟨a, vs, rfl, h1, h2⟩ := h.lst
    exact .inl (.inl ⟨vs, h1, (empty_len h2.length).symm⟩)
  | tup ts =>
    cases e
    obtain ⟨a, vs, rfl, h1, h2⟩ := h.tup
    exact .inl (.inr (.inl ⟨vs, h1, (empty_len h2.length).symm⟩))
  | ctup ts =>
    cases e
    obtain ⟨a, vs, rfl, h1, h2, _⟩ := h.ctup
    exact .inl (.inr (.inl ⟨vs, h1, (empty_len h2.length).symm⟩))
  | clst ts => cases e
  | dic ks ts =>
    simp only [truT] at e
    split at e
    · cases e
      obtain ⟨a, vs, rfl, l, h1, h2⟩ := h.dic
      exact .inr ⟨a, rfl, .inr ⟨_, h1, (empty_zip l h2.length).symm⟩⟩
    · cases e
  | dit ks ts =>
    simp only [truT] at e
    split at e
    · cases e
      obtain ⟨a, vs, rfl, l, h1, h2⟩ := h.dit
      exact .inr ⟨a, rfl, .inl ⟨_, h1, (empty_zip l h2.length).symm⟩⟩
    · cases e
  | ins c fs ts => cases e
  | gl n => cases e
  | ty n => cases e
/-! ### tests -/
abbrev Qb := Dl → Option Bool
abbrev Rb := Option (Except Xn Bool × Dl)
def qB (f : Qb) : Dl → Rb := fun δ => match f δ with
  | none => none
  | some b => some (.ok b, δ)
def asB (f : Qf) : Qb := fun δ => match f δ with
  | some (.bl b) => some b
  | _ => none
def asTru (f : Qf) : Qb := fun δ => match f δ with
  | some t => truT t
  | none => none
def asBE (f : Dl → Rs) : Dl → Rb := fun δ => match f δ with
  | some (.ok (.bl b), δ') => some (.ok b, δ')
  | some (.error e, δ') => some (.error e, δ')
  | _ => none
def asTruE (f : Dl → Rs) : Dl → Rb := fun δ => match f δ with
  | none => none
  | some (.error e, δ') => some (.error e, δ')
  | some (.ok t, δ') => match truT t with
    | some b => some (.ok b, δ')
    | none => none
def notQ (f : Qb) : Qb := fun δ => match f δ with
  | some b => some (!b)
  | none => none
def andQ (f g : Qb) : Qb := fun δ => match f δ with
  | some true => g δ
  | some false => some false
  | none => none
def orQ (f g : Qb) : Qb := fun δ => match f δ with
  | some true => some true
  | some false => g δ
  | none => none
def notE (f : Dl → Rb) : Dl → Rb := fun δ => match f δ with
  | none => none
  | some (.error e, δ') => some (.error e, δ')
  | some (.ok b, δ') => some (.ok (!b), δ')
def andE (f g : Dl → Rb) : Dl → Rb := fun δ => match f δ with
  | none => none
  | some (.error e, δ') => some (.error e, δ')
  | some (.ok true, δ') => g δ'
  | some (.ok false, δ') => some (.ok false, δ')
def orE (f g : Dl → Rb) : Dl → Rb := fun δ => match f δ with
  | none => none
  | some (.error e, δ') => some (.error e, δ')
  | some (.ok true, δ') => some (.ok true, δ')
  | some (.ok false, δ') => g δ'
section
variable {X : Cx} {K : PySem.W.Frag} {sh : Nat → Sh} {Wx : WX} {W : Addr → Prop} {Y : List Addr} {Fm Fm1 : Nat → List Addr} {H H1 : Hp} {e a b : Expr} {rest : List Expr} {pos : Pos} {es : List Expr} {op : Op} {l : List (Md × Qf)} {os : List Opd} {σ : L2.St}
end
end NQ
namespace NQ
open PySem L2
/-! ### statements -/
inductive Fl where
  | nx | brk | cont | ret (t : T) | exc (e : Xn)
abbrev Ss := Option (Fl × Dl)
abbrev Sf := Dl → Ss
/-- the slots' shapes, the shape of what is returned, the slots that keep their value -/
structure Cf where
  sh : Nat → Sh
  rs : Sh
  pr : Nat → Bool
def Kp (c : Cf) (σ σ' : L2.St) : Prop := ∀ i, c.pr i = true → σ'[i]? = σ[i]?
theorem Kp.refl {c : Cf} {σ : L2.St} : Kp c σ σ := fun _ _ => rfl
theorem Kp.tr {c : Cf} {σ σ1 σ2 : L2.St} (h : Kp c σ σ1) (h2 : Kp c σ1 σ2) : Kp c σ σ2 := fun i p => (h2 i p).trans (h i p)
theorem Kp.set {c : Cf} {σ : L2.St} {i : Nat} {v : Option V} (h : c.pr i = false) : Kp c σ (σ.set i v) := fun j p => by
  rw [List.getElem?_set_ne (fun z => by rw [z, p] at h; cases h)]
section
variable (K : PySem.W.Frag) (c : Cf)
def Kx (W : Addr → Prop) (Y : List Addr) (Fm : Nat → List Addr) (σ : L2.St) (H : Hp) (δ' : Dl) (N : L2.St → Hp → Prop) : Prop :=
  ∀ σ' H' Fm', Kp c σ σ' → Fr K c.sh W Y Fm' H' σ' δ' → Xt (Om Fm) (Om Fm') H H' → N σ' H'
def Kr (W : Addr → Prop) (Y : List Addr) (Fm : Nat → List Addr) (σ : L2.St) (H : Hp) (t : T) (δ' : Dl) (R : VK) : Prop :=
  ∀ x σ' H' Fm' F, Kp c σ σ' → Fr K c.sh W (F ++ Y) Fm' H' σ' δ' → Ow K (Gw (F ++ Y) Fm' W) H' c.rs F x t → Xt (Om Fm) (fun a => a ∈ F ∨ Om Fm' a) H H' → R x H'
def Kes (Wx : WX) (W : Addr → Prop) (Y : List Addr) (Fm : Nat → List Addr) (σ : L2.St) (H : Hp) (e : Xn) (δ' : Dl) : Prop :=
  ∀ σ' d v H' Fm', Kp c σ σ' → Fr K c.sh W Y Fm' H' σ' δ' → Xt (Om Fm) (Om Fm') H H' → (¬ Gw Y Fm' W d ∧ H' d = some (.xd [(e.fld, v)])) → Df K (Gw Y Fm' W) H' v e.val → Wx (.ref (He.ga K e.cls)) (some d) σ' H'
def Ks (Wx : WX) (W : Addr → Prop) (Y : List Addr) (Fm : Nat → List Addr) (σ : L2.St) (H : Hp) (r : Ss) (D : Ends) : Prop := match r with
  | none => False
  | some (.nx, δ') => Kx K c W Y Fm σ H δ' D.nx
  | some (.brk, δ') => Kx K c W Y Fm σ H δ' D.bk
  | some (.cont, δ') => Kx K c W Y Fm σ H δ' D.ct
  | some (.ret t, δ') => Kr K c W Y Fm σ H t δ' D.rt
  | some (.exc e, δ') => Kes K c Wx W Y Fm σ H e δ'
def SF (Wx : WX) (F : Sf) : TS := fun D σ H => ∃ W Y Fm δ, Fr K c.sh W Y Fm H σ δ ∧ Ks K c Wx W Y Fm σ H (F δ) D
end
def sNext : Sf := fun δ => some (.nx, δ)
def sBrk : Sf := fun δ => some (.brk, δ)
def sCont : Sf := fun δ => some (.cont, δ)
def sSeq (F G : Sf) : Sf := fun δ => match F δ with
  | some (.nx, δ') => G δ'
  | r => r
def sSet (i : Nat) (f : Dl → Rs) : Sf := fun δ => match f δ with
  | none => none
  | some (.error e, δ') => some (.exc e, δ')
  | some (.ok t, δ') => some (.nx, δ'.set i (some t))
def sDrop (f : Dl → Rs) : Sf := fun δ => match f δ with
  | none => none
  | some (.error e, δ') => some (.exc e, δ')
  | some (.ok _, δ') => some (.nx, δ')
def sRet (f : Dl → Rs) : Sf := fun δ => match f δ with
  | none => none
  | some (.error e, δ') => some (.exc e, δ')
  | some (.ok t, δ') => some (.ret t, δ')
def sRetV (i : Nat) : Sf := fun δ => match dAt δ i with
  | none => none
  | some t => some (.ret t, δ.set i none)
def sRetN : Sf := fun δ => some (.ret .non, δ)
def sIf (f : Dl → Rb) (F G : Sf) : Sf := fun δ => match f δ with
  | none => none
  | some (.error e, δ') => some (.exc e, δ')
  | some (.ok true, δ') => F δ'
  | some (.ok false, δ') => G δ'
section
variable {K : PySem.W.Frag} {c : Cf} {Wx : WX} {W : Addr → Prop} {Y : List Addr} {Fm Fm1 : Nat → List Addr} {σ σ1 : L2.St} {H H1 : Hp} {δ δ' : Dl}
theorem Kes.ke {e : Xn} (h : Kes K c Wx W Y Fm σ H e δ') : Ke K c.sh Wx W Y Fm σ H e δ' := fun d v H' Fm' f x q1 q2 => h σ d v H' Fm' .refl f x q1 q2
/-- frozen outcomes are outcomes of the shape fz -/
theorem Kr.fz {R : VK} {t : T} (hr : c.rs = .fz) (h : Kr K c W Y Fm σ H t δ' R) : ∀ x H' Fm', Fr K c.sh W Y Fm' H' σ δ' → Xt (Om Fm) (Om Fm') H H' → Df K (Gw Y Fm' W) H' x t → R x H' := fun x H' Fm' f xt d =>
  h x σ H' Fm' [] .refl f (by rw [hr]; exact .fz d) ⟨xt.1, fun a z => z.elim (fun q => absurd q List.not_mem_nil) fun q => xt.2 a q⟩
end
section
variable {X : Cx} {K : PySem.W.Frag} {c : Cf} {Wx : WX} {st : Stmt} {rest : List Stmt} {F G : Sf} {e : Expr} {f : Dl → Rs} {pos : Pos}
def sSetN (i : Nat) (f : Dl → Rs) : Sf := fun δ => match f δ with
  | none => none
  | some (.error e, δ') => some (.exc e, δ')
  | some (.ok t, δ') => if i < δ'.length then some (.nx, δ'.set i (some t)) else none
/-! ### expressions that choose -/
def ifE (g : Dl → Rb) (f1 f2 : Dl → Rs) : Dl → Rs := fun δ => match g δ with
  | none => none
  | some (.error e, δ') => some (.error e, δ')
  | some (.ok true, δ') => f1 δ'
  | some (.ok false, δ') => f2 δ'
def ifQ (g : Qb) (f1 f2 : Qf) : Qf := fun δ => match g δ with
  | none => none
  | some true => f1 δ
  | some false => f2 δ
variable {sh : Nat → Sh} {t a b : Expr}
/-! ### slots and written things -/
def eV (i : Nat) : Qf := fun δ => dAt δ i
def eC (t : T) : Qf := fun _ => some t
end
end NQ
namespace NQ
open PySem L2
/-! ### defs as functions over trees -/
inductive Ou where
  | ret (t : T) | exc (e : Xn)
abbrev Fo := Option (Ou × List T)
def Sh.isO : Sh → Bool
  | .fz => false
  | .vw => false
  | .xc .. => false
  | _ => true
mutual
def Sh.beq : Sh → Sh → Bool
  | .fz, .fz => true
  | .vw, .vw => true
  | .all a, .all b => Sh.beq a b
  | .opt a, .opt b => Sh.beq a b
  | .row a, .row b => beqL a b
  | .flds a, .flds b => beqF a b
  | _, _ => false
def beqL : List Sh → List Sh → Bool
  | [], [] => true
  | a :: r, b :: s => Sh.beq a b && beqL r s
  | _, _ => false
def beqF : List (Str × Sh) → List (Str × Sh) → Bool
  | [], [] => true
  | (x, a) :: r, (y, b) :: s => decide (x = y) && (Sh.beq a b && beqF r s)
  | _, _ => false
end
mutual
theorem Sh.beq_eq : ∀ {a b : Sh}, Sh.beq a b = true → a = b
  | .fz, b, h => by cases b <;> first | rfl | (simp [Sh.beq] at h)
  | .vw, b, h => by cases b <;> first | rfl | (simp [Sh.beq] at h)
  | .xc .., b, h => by cases b <;> (simp [Sh.beq] at h)
  | .all a, b, h => by cases b <;> first | (simp only [Sh.beq] at h; rw [Sh.beq_eq h]) | (simp [Sh.beq] at h)
  | .opt a, b, h => by cases b <;> first | (simp only [Sh.beq] at h; rw [Sh.beq_eq h]) | (simp [Sh.beq] at h)
  | .row a, b, h => by cases b <;> first | (simp only [Sh.beq] at h; rw [beqL_eq h]) | (simp [Sh.beq] at h)
  | .flds a, b, h => by cases b <;> first | (simp only [Sh.beq] at h; rw [beqF_eq h]) | (simp [Sh.beq] at h)
theorem beqL_eq : ∀ {a b : List Sh}, beqL a b = true → a = b
  | [], b, h => by cases b <;> first | rfl | (simp [beqL] at h)
  | a :: r, b, h => by
    cases b with
    | nil => simp [beqL] at h
    | cons b s =>
      simp only [beqL, Bool.and_eq_true] at h
      rw [Sh.beq_eq h.1, beqL_eq h.2]
theorem beqF_eq : ∀ {a b : List (Str × Sh)}, beqF a b = true → a = b
  | [], b, h => by cases b <;> first | rfl | (simp [beqF] at h)
  | (x, a) :: r, b, h => by
    cases b with
    | nil => simp [beqF] at h
    | cons b s =>
      obtain ⟨y, b⟩ := b
      simp only [beqF, Bool.and_eq_true, decide_eq_true_eq] at h
      rw [h.1, Sh.beq_eq h.2.1, beqF_eq h.2.2]
end
def pl : List Sh → Nat → Sh
  | [], _ => .fz
  | s :: _, 0 => s
  | _ :: r, i + 1 => pl r i
section
variable (K : PySem.W.Frag) (ps : List Sh) (rs : Sh)
end
/-- the parameters of one's own as they stand at the end -/
def fin : List Sh → List T → Dl → Option (List T)
  | s :: ss, t :: ts, d :: δ => match fin ss ts δ with
    | none => none
    | some l => if s.isO then (match d with | some u => some (u :: l) | none => none) else some (t :: l)
  | [], [], _ => some []
  | _, _, _ => none
def Sh.nilOk : Sh → Bool
  | .fz => true
  | .opt _ => true
  | _ => false
def fnT (ps : List Sh) (m : Nat) (rs : Sh) (b : Sf) : List T → Fo := fun ts => match b (ts.map some ++ List.replicate m none) with
  | some (.nx, δ) => if rs.nilOk then (match fin ps ts δ with | some l => some (.ret .non, l) | none => none) else none
  | some (.ret t, δ) => match fin ps ts δ with | some l => some (.ret t, l) | none => none
  | some (.exc e, δ) => match fin ps ts δ with | some l => some (.exc e, l) | none => none
  | _ => none
end NQ
namespace NQ
open PySem L2
/-! ### calls -/
def skO : List Opd → List (Option Nat)
  | [] => []
  | .var i :: r => some i :: skO r
  | .val _ :: r => none :: skO r
def owns : List Sh → List (Option Nat) → List Nat
  | s :: ss, some i :: k => if s.isO then i :: owns ss k else owns ss k
  | _ :: ss, none :: k => owns ss k
  | _, _ => []
def wb : List Sh → List (Option Nat) → List T → Dl → Dl
  | s :: ss, some i :: k, t :: ts, δ => wb ss k ts (if s.isO then δ.set i (some t) else δ)
  | _ :: ss, none :: k, _ :: ts, δ => wb ss k ts δ
  | _, _, _, δ => δ
theorem ArgR.len {K : PySem.W.Frag} {G : Addr → Prop} {H : Hp} {σ : L2.St} : ∀ {l : List (Nat ⊕ T)} {xs : List V}, ArgR K G H σ l xs → xs.length = l.length
  | _, _, .nil => rfl
  | _, _, .var _ r => by rw [List.length_cons, List.length_cons, ArgR.len r]
  | _, _, .val _ r => by rw [List.length_cons, List.length_cons, ArgR.len r]
end NQ
namespace NQ
open PySem L2
section
variable {K : PySem.W.Frag} {sh : Nat → Sh} {W : Addr → Prop} {Y F : List Addr} {Fm Fm' : Nat → List Addr} {H H' : Hp} {σ : L2.St} {δ : Dl} {ps : List Sh} {sk : List (Option Nat)} {xs : List V} {ts ts' : List T} {l : List (Nat ⊕ T)}
def Wc (ps : List Sh) (sk : List (Option Nat)) (W : Addr → Prop) (Y : List Addr) (Fm : Nat → List Addr) : Addr → Prop := fun a => a ∈ Y ∨ W a ∨ ∃ i, i ∉ owns ps sk ∧ a ∈ Fm i
end
/-! ### a call of a def -/
def fCall (ps : List Sh) (F : List T → Fo) (os : List Opd) : Dl → Rs := fun δ => match runs os δ with
  | none => none
  | some (.error e, δ') => some (.error e, δ')
  | some (.ok l, δ') => match res l δ' with
    | none => none
    | some ts => match F ts with
      | none => none
      | some (.ret t, ts') => if ts'.length = ps.length then some (.ok t, wb ps (skO os) ts' δ') else none
      | some (.exc e, ts') => if ts'.length = ps.length then some (.error e, wb ps (skO os) ts' δ') else none
section
variable {X : Cx} {K : PySem.W.Frag} {sh : Nat → Sh} {Wx : WX} {ps : List Sh} {rs : Sh} {F : List T → Fo} {os : List Opd} {σ : L2.St} {H : Hp} {Q : VK}
variable {k : Nat} {x : Str} {e : Expr} {es : List Expr} {params : List Str} {p pos : Pos}
end
end NQ
namespace NQ
open PySem L2
/-! ### targets -/
abbrev Gf := T → Dl → Option Dl
abbrev Gfs := List T → Dl → Option Dl
/-- only the slots ns may have changed -/
def On (ns : List Nat) (σ σ' : L2.St) : Prop := σ'.length = σ.length ∧ ∀ i, i ∉ ns → σ'[i]? = σ[i]?
theorem On.refl {ns : List Nat} {σ : L2.St} : On ns σ σ := ⟨rfl, fun _ _ => rfl⟩
theorem On.set {σ : L2.St} {i : Nat} {v : Option V} : On [i] σ (σ.set i v) := ⟨by simp, fun j h => by rw [List.getElem?_set_ne (fun z => h (by rw [z]; exact List.mem_singleton.mpr rfl))]⟩
theorem On.tr {ns ms : List Nat} {σ σ1 σ2 : L2.St} (h : On ns σ σ1) (h2 : On ms σ1 σ2) : On (ns ++ ms) σ σ2 := ⟨h2.1.trans h.1, fun i n => (h2.2 i fun z => n (List.mem_append_right _ z)).trans (h.2 i fun z => n (List.mem_append_left _ z))⟩
def gN (i : Nat) : Gf := fun t δ => some (δ.set i (some t))
def gT (gs : Gfs) : Gf := fun t δ => match seqT t with
  | some ts => gs ts δ
  | none => none
def gNl : Gfs
  | [], δ => some δ
  | _ :: _, _ => none
def gCs (g : Gf) (gs : Gfs) : Gfs
  | t :: ts, δ => match g t δ with
    | some δ' => gs ts δ'
    | none => none
  | [], _ => none
section
variable {X : Cx} {K : PySem.W.Frag} {c : Cf} {x : Str} {pos : Pos} {e : Expr} {es : List Expr}
end
/-! ### what is walked over -/
abbrev Il := Dl → Option (Except Xn (List T) × Dl)
section
variable {K : PySem.W.Frag} {G : Addr → Prop} {H : Hp} {a : Addr} {vs : List V} {ts : List T}
def enT (ts : List T) : List T := ts.zipIdx.map fun p => T.tup [.int (p.2 : Nat), p.1]
end
section
variable {X : Cx} {K : PySem.W.Frag} {sh : Nat → Sh} {Wx : WX} {tg e : Expr} {es : List Expr} {pos p : Pos}
/-- the items of a thing -/
def itT : T → Option (List T)
  | .str z => some ((NL.sgn z).map T.str)
  | t => seqT t
def itE (f : Dl → Rs) : Il := fun δ => match f δ with
  | none => none
  | some (.error e, δ') => some (.error e, δ')
  | some (.ok t, δ') => match itT t with
    | some ts => some (.ok ts, δ')
    | none => none
theorem Df.lst {G : Addr → Prop} {H : Hp} {x : V} {ts : List T} (h : Df K G H x (.lst ts)) : ∃ a vs, x = .ref a ∧ ¬ G a ∧ Rd H a (.lst vs) ∧ DfL K G H vs ts := by
  cases h with
  | sc h => exact h.elim
  | nd n c r => exact ⟨_, _, rfl, n, c, r⟩
theorem Df.tup {G : Addr → Prop} {H : Hp} {x : V} {ts : List T} (h : Df K G H x (.tup ts)) : ∃ a vs, x = .ref a ∧ ¬ G a ∧ H a = some (.tup vs) ∧ DfL K G H vs ts := by
  cases h with
  | sc h => exact h.elim
  | nd n c r => exact ⟨_, _, rfl, n, c, r⟩
/-! ### range, enumerate -/
def itR1 (f : Dl → Rs) : Il := fun δ => match f δ with
  | some (.ok (.int j), δ') => if -(2 ^ 62) ≤ j ∧ j < 2 ^ 62 then some (.ok ((List.range j.toNat).map fun i => T.int (0 + (i : Nat))), δ') else none
  | some (.error e, δ') => some (.error e, δ')
  | _ => none
def itR2 (o1 o2 : Dl → Rs) : Il := fun δ => match o1 δ with
  | some (.ok (.int i), δ1) => match o2 δ1 with
    | some (.ok (.int j), δ') => if -(2 ^ 62) ≤ i ∧ i < 2 ^ 62 ∧ -(2 ^ 62) ≤ j ∧ j < 2 ^ 62 then some (.ok ((List.range (j - i).toNat).map fun n => T.int (i + (n : Nat))), δ') else none
    | some (.error e, δ') => some (.error e, δ')
    | _ => none
  | some (.error e, δ') => some (.error e, δ')
  | _ => none
def itEn (f : Dl → Rs) : Il := fun δ => match f δ with
  | some (.ok (.lst ts), δ') => some (.ok (enT ts), δ')
  | some (.error e, δ') => some (.error e, δ')
  | _ => none
/-! ### for -/
def forM : List T → Gf → Sf → Sf
  | [], _, _, δ => some (.nx, δ)
  | t :: r, g, b, δ => match g t δ with
    | none => none
    | some δ1 => match b δ1 with
      | none => none
      | some (.nx, δ2) => forM r g b δ2
      | some (.cont, δ2) => forM r g b δ2
      | some (.brk, δ2) => some (.nx, δ2)
      | some (.ret t, δ2) => some (.ret t, δ2)
      | some (.exc e, δ2) => some (.exc e, δ2)
def sFor (its : Il) (g : Gf) (b : Sf) : Sf := fun δ => match its δ with
  | none => none
  | some (.error e, δ') => some (.exc e, δ')
  | some (.ok ts, δ') => forM ts g b δ'
variable {c : Cf} {body : List Stmt}
/-! ### while -/
end
end NQ
namespace NQ
open PySem L2
/-! ### comprehensions -/
def wipeD (δ : Dl) : List Nat → Dl
  | [] => δ
  | v :: vs => (wipeD δ vs).set v none
theorem wipeD_len {δ : Dl} : ∀ {vs : List Nat}, (wipeD δ vs).length = δ.length
  | [] => rfl
  | v :: vs => by unfold wipeD; rw [List.length_set, wipeD_len]
theorem wipeD_out {δ : Dl} {i : Nat} : ∀ {vs : List Nat}, i ∉ vs → dAt (wipeD δ vs) i = dAt δ i
  | [], _ => rfl
  | v :: vs, h => by
    unfold wipeD
    rw [dAt_set_ne (fun z => h (by rw [z]; exact List.mem_cons_self ..))]
    exact wipeD_out fun z => h (List.mem_cons_of_mem _ z)
theorem wipeD_in {δ : Dl} {i : Nat} : ∀ {vs : List Nat}, i ∈ vs → dAt (wipeD δ vs) i = none
  | v :: vs, h => by
    unfold wipeD
    by_cases z : i = v
    · subst z
      cases q : dAt ((wipeD δ vs).set i none) i with
      | none => rfl
      | some t => exact absurd (dAt_set_eq q) (by simp)
    · rw [dAt_set_ne z]
      exact wipeD_in ((List.mem_cons.mp h).elim (fun w => absurd w z) id)
theorem wipe_out {σ : L2.St} {i : Nat} : ∀ {vs : List Nat}, i ∉ vs → (wipe σ vs)[i]? = σ[i]?
  | [], _ => rfl
  | v :: vs, h => by
    unfold wipe
    rw [List.getElem?_set_ne (fun z => h (by rw [← z]; exact List.mem_cons_self ..))]
    exact wipe_out fun z => h (List.mem_cons_of_mem _ z)
theorem wipe_in {σ : L2.St} {i : Nat} : ∀ {vs : List Nat}, i ∈ vs → i < σ.length → (wipe σ vs)[i]? = some none
  | v :: vs, h, hl => by
    unfold wipe
    by_cases z : v = i
    · subst z
      rw [List.getElem?_set_self (by rw [wipe_length]; exact hl)]
    · rw [List.getElem?_set_ne z]
      exact wipe_in ((List.mem_cons.mp h).elim (fun w => absurd w.symm z) id) hl
theorem On.wipe {ns vs : List Nat} {σ σ' : L2.St} (h : On ns σ σ') (hs : ∀ i ∈ ns, i ∈ vs) : L2.wipe σ' vs = L2.wipe σ vs := by
  refine List.ext_getElem? fun i => ?_
  by_cases hi : i ∈ vs
  · by_cases hl : i < σ.length
    · rw [wipe_in hi hl, wipe_in hi (by rw [h.1]; exact hl)]
    · rw [List.getElem?_eq_none_iff.mpr (by rw [wipe_length, h.1]; omega), List.getElem?_eq_none_iff.mpr (by rw [wipe_length]; omega)]
  · rw [wipe_out hi, wipe_out hi]
    exact h.2 i fun z => hi (hs i z)
section
variable {K : PySem.W.Frag} {sh : Nat → Sh} {W : Addr → Prop} {Y : List Addr} {Fm : Nat → List Addr} {H H' : Hp} {σ : L2.St} {δ : Dl} {vs : List Nat}
theorem Fr.wipe (f : Fr K sh W Y Fm H σ δ) (hv : ∀ i ∈ vs, sh i = .fz) : Fr K sh W Y Fm H (L2.wipe σ vs) (wipeD δ vs) := by
  refine ⟨fun i t e => ?_, fun i e => ?_, f.nd, f.dj, f.dw, f.wl, by rw [wipeD_len, wipe_length]; exact f.len, f.xn, f.xd, f.xw, f.xl⟩
  · by_cases hi : i ∈ vs
    · rw [wipeD_in hi] at e; cases e
    · rw [wipeD_out hi] at e
      obtain ⟨v, h1, h2⟩ := f.rel i t e
      exact ⟨v, by rw [wipe_out hi]; exact h1, h2⟩
  · by_cases hi : i ∈ vs
    · exact f.fz0 (hv i hi)
    · rw [wipeD_out hi] at e
      exact f.un i e
end
/-- the items that a comprehension makes -/
def lcL (g : Gf) (cnd : Dl → Rb) (el : Dl → Rs) (vs : List Nat) : List T → Dl → Option (List T × Dl)
  | [], δ => some ([], δ)
  | t :: r, δ => match g t δ with
    | none => none
    | some δ1 => match cnd δ1 with
      | some (.ok true, δ2) => match el δ2 with
        | some (.ok u, δ3) => match lcL g cnd el vs r (wipeD δ3 vs) with
          | some (us, δ4) => some (u :: us, δ4)
          | none => none
        | _ => none
      | some (.ok false, δ2) => lcL g cnd el vs r (wipeD δ2 vs)
      | _ => none
def lcE (its : Il) (g : Gf) (cnd : Dl → Rb) (el : Dl → Rs) (vs : List Nat) : Dl → Rs := fun δ => match its δ with
  | none => none
  | some (.error e, δ') => some (.error e, δ')
  | some (.ok ts, δ') => if ts.length < sizeLine then (match lcL g cnd el vs ts (wipeD δ' vs) with
    | some (us, δ2) => some (.ok (.lst us), δ2)
    | none => none) else none
section
variable {X : Cx} {K : PySem.W.Frag} {c : Cf} {Wx : WX} {its : Il} {g : Gf} {cnd : Dl → Rb} {el : Dl → Rs} {vs ns : List Nat} {σ : L2.St} {H : Hp} {Q : VK}
end
end NQ
namespace NQ
open PySem L2
/-! ### comprehensions as expressions -/
def yesB : Dl → Rb := fun δ => some (.ok true, δ)
section
variable {X : Cx} {K : PySem.W.Frag} {c : Cf} {Wx : WX} {its : Il} {g : Gf} {cnd : Dl → Rb} {el : Dl → Rs} {ns : List Nat} {elt tg iter : Expr} {ifs : List Expr} {scope : Scope} {own : List (Str × Nat)} {pos : Pos}
variable {y : Str} {py spos : Pos}
end
/-! ### places in what is one's own -/
inductive Pt where
  | fld (c f : Str) | ix (k : Int)
def setAt {α : Type} (xs : List α) (k : Int) (x : α) : Option (List α) := match ixN xs.length k with
  | some j => some (xs.set j x)
  | none => none
/-- the part f of an object -/
def fldAt : List Str → List T → Str → Option T
  | f :: fs, t :: ts, g => if f = g then some t else fldAt fs ts g
  | _, _, _ => none
def fldSet : List Str → List T → Str → T → Option (List T)
  | f :: fs, t :: ts, g, u => if f = g then some (u :: ts) else (match fldSet fs ts g u with | some r => some (t :: r) | none => none)
  | _, _, _, _ => none
def getP : T → List Pt → Option T
  | t, [] => some t
  | .ins c fs ts, .fld c' f :: π => if c = c' then (match fldAt fs ts f with | some u => getP u π | none => none) else none
  | .lst ts, .ix k :: π => match atI ts k with
    | some u => getP u π
    | none => none
  | _, _ :: _ => none
def setP : T → List Pt → T → Option T
  | _, [], w => some w
  | .ins c fs ts, .fld c' f :: π, w => if c = c' then (match fldAt fs ts f with
      | some u => match setP u π w with
        | some u' => match fldSet fs ts f u' with
          | some ts' => some (.ins c fs ts')
          | none => none
        | none => none
      | none => none) else none
  | .lst ts, .ix k :: π, w => match atI ts k with
    | some u => match setP u π w with
      | some u' => match setAt ts k u' with
        | some ts' => some (.lst ts')
        | none => none
      | none => none
    | none => none
  | _, _ :: _, _ => none
def shP : Sh → List Pt → Option Sh
  | s, [] => some s
  | .flds d, .fld _ f :: π => shP ((d.lookup f).getD .fz) π
  | .all s, .ix _ :: π => shP s π
  | _, _ :: _ => none
/-- the value at a place -/
def pathV (K : PySem.W.Frag) (H : Hp) : V → List Pt → V → Prop
  | v, [], v' => v = v'
  | v, .fld c f :: π, v' => ∃ a dx fs u, v = .ref a ∧ H a = some (.ins (He.ga K c) dx fs) ∧ fs.lookup f = some u ∧ pathV K H u π v'
  | v, .ix k :: π, v' => ∃ a vs u, v = .ref a ∧ H a = some (.lst vs) ∧ atI vs k = some u ∧ pathV K H u π v'
end NQ
namespace NQ
open PySem L2
section
variable {K : PySem.W.Frag} {G : Addr → Prop} {H : Hp}
/-- one part of several that are one's own -/
theorem OwL.split : ∀ {ss : List Sh} {F : List Addr} {vs : List V} {ts : List T} {j : Nat} {t : T}, OwL K G H ss F vs ts → ts[j]? = some t → F.Nodup → (∀ a ∈ F, G a) → ∃ F1 F2 F3 v s, F = F1 ++ F2 ++ F3 ∧ ss[j]? = some s ∧ vs[j]? = some v ∧ Ow K G H s F2 v t ∧
    ∀ (G' U : Addr → Prop) (H' : Hp) (F2' : List Addr) (t' : T), EdP U H H' → (∀ a, U a → a ∈ F2 ∨ H a = none) → (∀ a, G' a → G a ∨ H a = none) → Ow K G' H' s F2' v t' → OwL K G' H' ss (F1 ++ F2' ++ F3) vs (ts.set j t')
  | _, _, _, _, j, t, .nil, e, _, _ => by simp at e
  | s :: ss, _, v :: vs, u :: ts, 0, t, .cons (F := F) (F' := F') h r, e, nd, hG => by
    simp at e
    subst e
    have nx := List.nodup_append.mp nd
    refine ⟨[], F, F', v, s, by simp, rfl, rfl, h, fun G' U H' F2' t' ed hu hg o => ?_⟩
    rw [List.nil_append]
    refine OwL.cons o (r.step ed (fun a z => (hu a z).imp (fun w => hG a (List.mem_append_left _ w)) id) hg fun a z w => ?_)
    exact (hu a w).elim (fun y => nx.2.2 a y a z rfl) fun y => r.alive a z y
  | s :: ss, _, v :: vs, u :: ts, j + 1, t, .cons (F := F) (F' := F') h r, e, nd, hG => by
    have nx := List.nodup_append.mp nd
    obtain ⟨F1, F2, F3, v', s', eF, h1, h2, h3, h4⟩ := OwL.split (j := j) r (by simpa using e) nx.2.1 fun a z => hG a (List.mem_append_right _ z)
    refine ⟨F ++ F1, F2, F3, v', s', by rw [eF]; simp [List.append_assoc], by simpa using h1, by simpa using h2, h3, fun G' U H' F2' t' ed hu hg o => ?_⟩
    have := OwL.cons (h.step ed (fun a z => (hu a z).imp (fun w => hG a (List.mem_append_right _ (by rw [eF]; exact List.mem_append_left _ (List.mem_append_right _ w)))) id) hg fun a z w => (hu a w).elim (fun y => nx.2.2 a z a (by rw [eF]; exact List.mem_append_left _ (List.mem_append_right _ y)) rfl) fun y => h.alive a z y) (h4 G' U H' F2' t' ed hu hg o)
    rw [List.set_cons_succ]
    have e2 : F ++ F1 ++ F2' ++ F3 = F ++ (F1 ++ F2' ++ F3) := by simp [List.append_assoc]
    rw [e2]
    exact this
theorem fld_idx : ∀ {fs : List Str} {ts : List T} {f : Str} {u : T}, fldAt fs ts f = some u → ∃ j : Nat, fs[j]? = some f ∧ ts[j]? = some u ∧ (∀ w, fldSet fs ts f w = some (ts.set j w)) ∧ ∀ vs : List V, fs.length = vs.length → (fs.zip vs).lookup f = vs[j]?
  | [], _, _, _, e => by simp [fldAt] at e
  | _ :: _, [], _, _, e => by simp [fldAt] at e
  | g :: fs, t :: ts, f, u, e => by
    unfold fldAt at e
    by_cases z : g = f
    · rw [if_pos z] at e
      cases e
      subst z
      refine ⟨0, rfl, rfl, fun w => by unfold fldSet; rw [if_pos rfl]; rfl, fun vs hl => ?_⟩
      cases vs with
      | nil => simp at hl
      | cons v vs => simp [List.lookup]
    · rw [if_neg z] at e
      obtain ⟨j, h1, h2, h3, h4⟩ := fld_idx e
      refine ⟨j + 1, by simpa using h1, by simpa using h2, fun w => by rw [fldSet, if_neg z, h3 w]; rfl, fun vs hl => ?_⟩
      cases vs with
      | nil => simp at hl
      | cons v vs =>
        have : (f == g) = false := by simpa using fun q => z q.symm
        simp only [List.zip_cons_cons, List.lookup, this]
        rw [h4 vs (by simpa using hl)]
        simp
theorem atI_ix {α : Type} {ys : List α} {i : Int} {y : α} (e : atI ys i = some y) : ∃ j : Nat, ixN ys.length i = some j ∧ ys[j]? = some y := by
  unfold atI at e
  cases q : ixN ys.length i with
  | none => rw [q] at e; cases e
  | some j => rw [q] at e; exact ⟨j, rfl, e⟩
/-- what lies at a place of what is one's own, and what it is when that changes -/
theorem focus : ∀ {π : List Pt} {s s' : Sh} {F : List Addr} {v : V} {t t' : T}, Ow K G H s F v t → shP s π = some s' → getP t π = some t' → F.Nodup → (∀ a ∈ F, G a) → ∃ F1 F2 F3 v', F = F1 ++ F2 ++ F3 ∧ Ow K G H s' F2 v' t' ∧ pathV K H v π v' ∧
    ∀ (G' U : Addr → Prop) (H' : Hp) (F2' : List Addr) (w : T), EdP U H H' → (∀ a, U a → a ∈ F2 ∨ H a = none) → (∀ a, G' a → G a ∨ H a = none) → Ow K G' H' s' F2' v' w → ∃ t2, setP t π w = some t2 ∧ Ow K G' H' s (F1 ++ F2' ++ F3) v t2
  | [], s, s', F, v, t, t', o, hs, hg, nd, hG => by
    have es : s = s' := by cases s <;> exact Option.some.inj hs
    have et : t = t' := by cases t <;> exact Option.some.inj hg
    subst es et
    exact ⟨[], F, [], v, by simp, o, rfl, fun G' U H' F2' w ed hu hg o' => ⟨w, by cases t <;> rfl, by simpa using o'⟩⟩
  | .fld c f :: π, .flds d, s', _, _, t, t', .nd (a := a) (F := F) (vs := vs) (ss := ss) ce k r, hs, hg, nd, hG => by
    cases t with
    | ins c' fs ts =>
      unfold getP at hg
      split at hg
      · rename_i ec
        subst ec
        split at hg
        · rename_i u q
          obtain ⟨j, j1, j2, j3, j4⟩ := fld_idx q
          cases k
          have nn := List.nodup_cons.mp nd
          obtain ⟨F1, F2, F3, v1, s1, eF, h1, h2, h3, h4⟩ := r.split (j := j) j2 nn.2 fun b z => hG b (List.mem_cons_of_mem _ z)
          rw [List.getElem?_map, j1] at h1
          cases h1
          have n2 : F2.Nodup := by rw [eF] at nn; exact (List.nodup_append.mp (List.nodup_append.mp nn.2).1).2.1
          obtain ⟨P1, P2, P3, v', eP, q1, q2, q3⟩ := focus (π := π) h3 hs hg n2 fun b z => hG b (List.mem_cons_of_mem _ (by rw [eF]; exact List.mem_append_left _ (List.mem_append_right _ z)))
          obtain ⟨cl, dx, ch⟩ := ce
          refine ⟨a :: (F1 ++ P1), P2, P3 ++ F3, v', by rw [eF, eP]; simp [List.append_assoc], q1, ⟨a, dx, _, v1, rfl, ch, ?_, q2⟩, fun G' U H' F2' w ed hu hg' o' => ?_⟩
          · rw [j4 vs cl]; exact h2
          · have hu2 : ∀ b, U b → b ∈ F2 ∨ H b = none := fun b z => (hu b z).imp (fun y => by rw [eP]; exact List.mem_append_left _ (List.mem_append_right _ y)) id
            obtain ⟨u2, w1, w2⟩ := q3 G' U H' F2' w ed hu hg' o'
            have w3 := h4 G' U H' _ u2 ed hu2 hg' w2
            refine ⟨.ins c' fs (ts.set j u2), ?_, ?_⟩
            · unfold setP
              rw [if_pos rfl]
              simp only [q, w1, j3]
            · have na : ¬ U a := fun z => (hu2 a z).elim (fun y => nn.1 (by rw [eF]; exact List.mem_append_left _ (List.mem_append_right _ y))) fun y => by rw [ch] at y; cases y
              have := Ow.nd (s := .flds d) (t := .ins c' fs (ts.set j u2)) (vs := vs) ⟨cl, dx, ed.1 _ _ na ch⟩ rfl w3
              have e2 : a :: (F1 ++ P1) ++ F2' ++ (P3 ++ F3) = a :: (F1 ++ (P1 ++ F2' ++ P3) ++ F3) := by simp [List.append_assoc]
              rw [e2]
              exact this
        · cases hg
      · cases hg
    | _ => cases hg
  | .ix n :: π, .all s, s', _, _, t, t', .nd (a := a) (F := F) (vs := vs) (ss := ss) ce k r, hs, hg, nd, hG => by
    cases t with
    | lst ts =>
      unfold getP at hg
      split at hg
      · rename_i u q
        cases k
        have nn := List.nodup_cons.mp nd
        have hl : vs.length = ts.length := r.rp.length
        obtain ⟨j, jx, j1⟩ := atI_ix q
        have j2 : atI vs n = vs[j]? := by unfold atI; rw [hl, jx]; rfl
        obtain ⟨F1, F2, F3, v1, s1, eF, h1, h2, h3, h4⟩ := r.split (j := j) j1 nn.2 fun b z => hG b (List.mem_cons_of_mem _ z)
        rw [List.getElem?_map, j1] at h1
        cases h1
        have n2 : F2.Nodup := by rw [eF] at nn; exact (List.nodup_append.mp (List.nodup_append.mp nn.2).1).2.1
        obtain ⟨P1, P2, P3, v', eP, q1, q2, q3⟩ := focus (π := π) h3 hs hg n2 fun b z => hG b (List.mem_cons_of_mem _ (by rw [eF]; exact List.mem_append_left _ (List.mem_append_right _ z)))
        refine ⟨a :: (F1 ++ P1), P2, P3 ++ F3, v', by rw [eF, eP]; simp [List.append_assoc], q1, ⟨a, vs, v1, rfl, ce, by rw [j2]; exact h2, q2⟩, fun G' U H' F2' w ed hu hg' o' => ?_⟩
        have hu2 : ∀ b, U b → b ∈ F2 ∨ H b = none := fun b z => (hu b z).imp (fun y => by rw [eP]; exact List.mem_append_left _ (List.mem_append_right _ y)) id
        obtain ⟨u2, w1, w2⟩ := q3 G' U H' F2' w ed hu hg' o'
        have w3 := h4 G' U H' _ u2 ed hu2 hg' w2
        have hset : setAt ts n u2 = some (ts.set j u2) := by unfold setAt; rw [jx]
        refine ⟨.lst (ts.set j u2), ?_, ?_⟩
        · unfold setP
          simp only [q, w1, hset]
        · have na : ¬ U a := fun z => (hu2 a z).elim (fun y => nn.1 (by rw [eF]; exact List.mem_append_left _ (List.mem_append_right _ y))) fun y => by rw [show H a = some (.lst vs) from ce] at y; cases y
          have := Ow.nd (s := .all s) (t := .lst (ts.set j u2)) (vs := vs) (ss := (ts.set j u2).map fun _ => s) (ed.1 _ _ na ce) rfl (by
            have e3 : ((ts.set j u2).map fun _ => s) = (T.lst ts).kids.map fun _ => s := by
              show _ = ts.map fun _ => s
              rw [List.map_set]
              exact List.ext_getElem? fun i => by
                by_cases z : j = i
                · subst z
                  by_cases lt : j < ts.length
                  · rw [List.getElem?_set_self (by simpa using lt), List.getElem?_map, List.getElem?_eq_getElem lt]; rfl
                  · rw [List.getElem?_eq_none_iff.mpr (by simp; omega), List.getElem?_eq_none_iff.mpr (by simp; omega)]
                · rw [List.getElem?_set_ne z]
            rw [e3]
            exact w3)
          have e2 : a :: (F1 ++ P1) ++ F2' ++ (P3 ++ F3) = a :: (F1 ++ (P1 ++ F2' ++ P3) ++ F3) := by simp [List.append_assoc]
          rw [e2]
          exact this
      · cases hg
    | _ => cases hg
  | .fld c f :: π, .fz, s', _, _, t, t', _, hs, _, _, _ => by cases hs
  | .fld c f :: π, .vw, s', _, _, t, t', _, hs, _, _, _ => by cases hs
  | .fld c f :: π, .xc _ _ _ _, s', _, _, t, t', _, hs, _, _, _ => by cases hs
  | .fld c f :: π, .all _, s', _, _, t, t', _, hs, _, _, _ => by cases hs
  | .fld c f :: π, .row _, s', _, _, t, t', _, hs, _, _, _ => by cases hs
  | .fld c f :: π, .opt _, s', _, _, t, t', _, hs, _, _, _ => by cases hs
  | .ix n :: π, .fz, s', _, _, t, t', _, hs, _, _, _ => by cases hs
  | .ix n :: π, .vw, s', _, _, t, t', _, hs, _, _, _ => by cases hs
  | .ix n :: π, .xc _ _ _ _, s', _, _, t, t', _, hs, _, _, _ => by cases hs
  | .ix n :: π, .flds _, s', _, _, t, t', _, hs, _, _, _ => by cases hs
  | .ix n :: π, .row _, s', _, _, t, t', _, hs, _, _, _ => by cases hs
  | .ix n :: π, .opt _, s', _, _, t, t', _, hs, _, _, _ => by cases hs
end
end NQ
namespace NQ
open PySem L2
/-! ### expressions that name a place -/
def eP (i : Nat) (π : List Pt) : Qf := fun δ => match dAt δ i with
  | some t => getP t π
  | none => none
section
variable {K : PySem.W.Frag} {H : Hp}
end
section
variable {X : Cx} {K : PySem.W.Frag} {sh : Nat → Sh} {e o k : Expr} {i : Nat} {π : List Pt} {pos : Pos}
/-- a place is read -/
theorem Fr.place {W : Addr → Prop} {Y : List Addr} {Fm : Nat → List Addr} {H : Hp} {σ : L2.St} {δ : Dl} {t t' : T} {s' : Sh} (f : Fr K sh W Y Fm H σ δ) (e : dAt δ i = some t) (hs : shP (sh i) π = some s') (hn : (sh i).pln = true) (hg : getP t π = some t') :
    ∃ v v' F2, σ[i]? = some (some v) ∧ pathV K H v π v' ∧ Ow K (Gw Y Fm W) H s' F2 v' t' := by
  obtain ⟨v, h1, h2⟩ := f.rel i t e
  obtain ⟨F1, F2, F3, v', eF, k1, k2, k3⟩ := focus (h2.own hn) hs hg (f.nd i) fun a z => .inl (.inr ⟨i, z⟩)
  exact ⟨v, v', F2, h1, k2, k1⟩
/-- a place is written: what it holds is told anew -/
theorem Fr.put {W : Addr → Prop} {N Y : List Addr} {Fm : Nat → List Addr} {H : Hp} {σ : L2.St} {δ : Dl} {t t' : T} {s' : Sh} (f : Fr K sh W (N ++ Y) Fm H σ δ) (e : dAt δ i = some t) (hs : shP (sh i) π = some s') (hn : (sh i).pln = true) (hg : getP t π = some t') :
    ∃ v v' F2, σ[i]? = some (some v) ∧ pathV K H v π v' ∧ Ow K (Gw (N ++ Y) Fm W) H s' F2 v' t' ∧ F2.Nodup ∧ (∀ a ∈ F2, a ∈ Fm i) ∧
      ∀ (U : Addr → Prop) (H' : Hp) (F2' : List Addr) (w : T), EdP U H H' → (∀ a, U a → a ∈ F2) → F2'.Nodup → (∀ a ∈ F2', a ∈ F2 ∨ a ∈ N) → Ow K (Gw (N ++ Y) Fm W) H' s' F2' v' w →
        ∃ t2 Fm', setP t π w = some t2 ∧ Fr K sh W Y Fm' H' σ (δ.set i (some t2)) ∧ (∀ a, Om Fm' a → a ∈ N ∨ Om Fm a) := by
  obtain ⟨v, h1, h2⟩ := f.rel i t e
  obtain ⟨F1, F2, F3, v', eF, k1, k2, k3⟩ := focus (h2.own hn) hs hg (f.nd i) fun a z => .inl (.inr ⟨i, z⟩)
  have nd := f.nd i
  rw [eF] at nd
  have n12 := List.nodup_append.mp nd
  have n1 := List.nodup_append.mp n12.1
  have m2 : ∀ a ∈ F2, a ∈ Fm i := fun a z => by rw [eF]; exact List.mem_append_left _ (List.mem_append_right _ z)
  have m1 : ∀ a ∈ F1, a ∈ Fm i := fun a z => by rw [eF]; exact List.mem_append_left _ (List.mem_append_left _ z)
  have m3 : ∀ a ∈ F3, a ∈ Fm i := fun a z => by rw [eF]; exact List.mem_append_right _ z
  refine ⟨v, v', F2, h1, k2, k1, n1.2.1, m2, fun U H' F2' w ed hu nd2 hsub o => ?_⟩
  have nx := List.nodup_append.mp f.xn
  let Fm' : Nat → List Addr := fun j => if j = i then F1 ++ F2' ++ F3 else Fm j
  have hm : ∀ j a, a ∈ Fm' j → (j = i ∧ (a ∈ Fm i ∨ a ∈ N)) ∨ (j ≠ i ∧ a ∈ Fm j) := fun j a z => by
    by_cases y : j = i
    · simp only [Fm', if_pos y] at z
      refine .inl ⟨y, ?_⟩
      rcases List.mem_append.mp z with z | z
      · rcases List.mem_append.mp z with z | z
        · exact .inl (m1 a z)
        · exact (hsub a z).imp (m2 a) id
      · exact .inl (m3 a z)
    · simp only [Fm', if_neg y] at z
      exact .inr ⟨y, z⟩
  have hgm : ∀ a, Gm Y Fm' a → Gm (N ++ Y) Fm a := fun a z => by
    rcases z with z | ⟨j, z⟩
    · exact .inl (List.mem_append_right _ z)
    · rcases hm j a z with ⟨_, z | z⟩ | ⟨_, z⟩
      · exact .inr ⟨i, z⟩
      · exact .inl (List.mem_append_left _ z)
      · exact .inr ⟨j, z⟩
  have hgw : ∀ a, Gw Y Fm' W a → Gw (N ++ Y) Fm W a := fun a z => z.imp (hgm a) id
  obtain ⟨t2, w1, w2⟩ := k3 (Gw Y Fm' W) U H' F2' w ed (fun a z => .inl (hu a z)) (fun a z => .inl (hgw a z)) (o.weak hgw)
  have il := dAt_lt e
  refine ⟨t2, Fm', w1, ⟨fun j u ej => ?_, fun j ej => ?_, fun j => ?_, fun j l a n q q2 => ?_, fun j a q => ?_, fun a z => ed.2.2 a (f.wl a z), by simpa using f.len, nx.2.1, fun j a q q2 => ?_, fun a q => f.xw a (List.mem_append_right _ q), fun a q => ed.2.2 a (f.xl a (List.mem_append_right _ q))⟩, fun a ⟨j, z⟩ => ?_⟩
  · by_cases y : j = i
    · subst y
      have e2 := dAt_set_eq ej
      cases e2
      refine ⟨v, h1, .inr ?_⟩
      simp only [Fm', if_pos]
      exact w2
    · rw [dAt_set_ne y] at ej
      obtain ⟨x, q1, q2⟩ := f.rel j u ej
      refine ⟨x, q1, ?_⟩
      have e3 : Fm' j = Fm j := if_neg y
      rw [e3]
      exact q2.step ed (fun a z => .inl (.inr ⟨i, m2 a (hu a z)⟩)) (fun a z => .inl (hgw a z)) (fun a z => .inl (hgm a z)) fun a z z2 => f.dj j i a y z (m2 a (hu a z2))
  · by_cases y : j = i
    · subst y
      rw [dAt_set_self il] at ej
      cases ej
    · rw [dAt_set_ne y] at ej
      show (if j = i then _ else Fm j) = []
      rw [if_neg y]
      exact f.un j ej
  · by_cases y : j = i
    · show List.Nodup (if j = i then _ else Fm j)
      rw [if_pos y]
      refine List.nodup_append.mpr ⟨List.nodup_append.mpr ⟨n1.1, nd2, fun a z b z2 eq => ?_⟩, n12.2.1, fun a z b z2 eq => ?_⟩
      · subst eq
        rcases hsub a z2 with z2 | z2
        · exact n1.2.2 a z a z2 rfl
        · exact f.xd i a (List.mem_append_left _ z2) (m1 a z)
      · subst eq
        rcases List.mem_append.mp z with z | z
        · exact n12.2.2 a (List.mem_append_left _ z) a z2 rfl
        · rcases hsub a z with z | z
          · exact n12.2.2 a (List.mem_append_right _ z) a z2 rfl
          · exact f.xd i a (List.mem_append_left _ z) (m3 a z2)
    · show List.Nodup (if j = i then _ else Fm j)
      rw [if_neg y]
      exact f.nd j
  · rcases hm j a q with ⟨y1, y2 | y2⟩ | ⟨y1, y2⟩ <;> rcases hm l a q2 with ⟨x1, x2 | x2⟩ | ⟨x1, x2⟩
    · exact n (y1.trans x1.symm)
    · exact n (y1.trans x1.symm)
    · exact f.dj i l a (fun z => x1 z.symm) y2 x2
    · exact n (y1.trans x1.symm)
    · exact n (y1.trans x1.symm)
    · exact f.xd l a (List.mem_append_left _ y2) x2
    · exact f.dj j i a y1 y2 x2
    · exact f.xd j a (List.mem_append_left _ x2) y2
    · exact f.dj j l a n y2 x2
  · rcases hm j a q with ⟨y1, y2 | y2⟩ | ⟨y1, y2⟩
    · exact f.dw i a y2
    · exact f.xw a (List.mem_append_left _ y2)
    · exact f.dw j a y2
  · rcases hm j a q2 with ⟨y1, y2 | y2⟩ | ⟨y1, y2⟩
    · exact f.xd i a (List.mem_append_right _ q) y2
    · exact nx.2.2 a y2 a q rfl
    · exact f.xd j a (List.mem_append_right _ q) y2
  · rcases hm j a z with ⟨y1, y2 | y2⟩ | ⟨y1, y2⟩
    · exact .inr ⟨i, y2⟩
    · exact .inl y2
    · exact .inr ⟨j, y2⟩
end
/-! ### append -/
theorem OwL.snoc {K : PySem.W.Frag} {G : Addr → Prop} {H : Hp} {s : Sh} {N : List Addr} {y : V} {u : T} (o : Ow K G H s N y u) : ∀ {ss : List Sh} {F : List Addr} {vs : List V} {ts : List T}, OwL K G H ss F vs ts → OwL K G H (ss ++ [s]) (F ++ N) (vs ++ [y]) (ts ++ [u])
  | _, _, _, _, .nil => by
    have := OwL.cons o OwL.nil
    simpa using this
  | _, _, _, _, .cons (F := F) (F' := F') h r => by
    have := OwL.cons h (OwL.snoc o r)
    rw [List.append_assoc]
    exact this
/-- the root of a list of one's own -/
theorem Ow.list {K : PySem.W.Frag} {G : Addr → Prop} {H : Hp} {s : Sh} {F : List Addr} {v : V} {ts : List T} (h : Ow K G H (.all s) F v (.lst ts)) : ∃ a F' vs, v = .ref a ∧ F = a :: F' ∧ H a = some (.lst vs) ∧ OwL K G H (ts.map fun _ => s) F' vs ts := by
  cases h with
  | nd c k r => cases k; exact ⟨_, _, _, rfl, rfl, c, r⟩
end NQ
namespace NQ
open PySem L2
/-! ### x.append(e), x a list of one's own -/
def fApp (i : Nat) (f : Dl → Rs) : Dl → Rs := fun δ => match dAt δ i with
  | some (.lst _) => match f δ with
    | none => none
    | some (.error e, δ') => some (.error e, δ')
    | some (.ok u, δ') => match dAt δ' i with
      | some (.lst ts) => if ts.length < sizeLine then some (.ok .non, δ'.set i (some (.lst (ts ++ [u])))) else none
      | _ => none
  | _ => none
section
variable {X : Cx} {K : PySem.W.Frag} {sh : Nat → Sh} {Wx : WX} {o e : Expr} {i : Nat} {f : Dl → Rs} {apos cpos : Pos}
/-! ### x[k] = e -/
end
def sSetIx (i : Nat) (fk : Qf) (f : Dl → Rs) : Sf := fun δ => match f δ with
  | none => none
  | some (.error e, δ') => some (.exc e, δ')
  | some (.ok u, δ') => match fk δ' with
    | some (.int n) => match dAt δ' i with
      | some (.lst ts) => match setAt ts n u with
        | some ts' => some (.nx, δ'.set i (some (.lst ts')))
        | none => none
      | _ => none
    | _ => none
section
variable {X : Cx} {K : PySem.W.Frag} {c : Cf} {Wx : WX} {o e k : Expr} {i : Nat} {f : Dl → Rs} {fk : Qf} {pos pos' : Pos}
/-! ### x += e, x a number -/
def sAug (i : Nat) (op : Op) (f : Dl → Rs) : Sf := fun δ => match dAt δ i with
  | some a => match f δ with
    | none => none
    | some (.error e, δ') => some (.exc e, δ')
    | some (.ok b, δ') => match op [a, b] with
      | some c => some (.nx, δ'.set i (some c))
      | none => none
  | none => none
def addI : Op
  | [.int i, .int j] => some (.int (i + j))
  | _ => none
def subI : Op
  | [.int i, .int j] => some (.int (i - j))
  | _ => none
end
/-! ### the rules by name -/
section
variable {X : Cx} {K : PySem.W.Frag} {a b : Expr} {pos p : Pos}
abbrev inA : Op := altT inT dinT
abbrev ninA : Op := altT ninT dninT
abbrev ixRA : Op := altT ixR dgetR
abbrev ixA : Op := altT ixRA (altT ixD dgetD)
end
end NQ
namespace NQ
open PySem L2
/-! ### lists joined, lists repeated, also those that are frozen -/
section
variable {K : PySem.W.Frag}
end
section
variable {X : Cx} {K : PySem.W.Frag} {a b c : Expr} {es : List Expr} {pos p : Pos}
abbrev addA : Op := altT addR addL
abbrev mulA : Op := altT mulR mulL
/-! ### calls of what is built in -/
abbrev listA : Op := altT listT listS
/-! ### isinstance, what is built in -/
def T.tyn : T → Option String
  | .non => some "NoneType" | .bl _ => some "bool" | .int _ => some "int" | .str _ => some "str"
  | .lst _ => some "list" | .tup _ => some "tuple" | .ctup _ => some "tuple" | .clst _ => some "list"
  | _ => none
def baseTys : List String := ["NoneType", "bool", "int", "str", "list", "tuple", "dict"]
def subB (m n : String) : Option Bool := if m ∈ baseTys ∧ n ∈ baseTys then some (m == n || (m == "bool" && n == "int")) else none
def isiT : Op
  | [t, .ty n] => match t.tyn with
    | some m => match subB m n with | some b => some (.bl b) | none => none
    | none => none
  | _ => none
end
end NQ
namespace NQ
open PySem L2
/-! ### a and b, a or b as values -/
def truW : T → Option Bool
  | .non => some false
  | .bl b => some b
  | .int i => some (i != 0)
  | .str z => if z.length ≤ sizeLine then some ((z.length : Int) != 0) else none
  | .lst ts => some (!ts.isEmpty)
  | .tup ts => some (!ts.isEmpty)
  | _ => none
theorem Rp.truW {K : PySem.W.Frag} {H : Hp} {x : V} {t : T} {b : Bool} (h : Rp K H x t) (e : truW t = some b) : TruV K x H b := by
  have e2 : truT t = some b := by
    cases t <;> first
      | exact e
      | cases e
  rcases h.tru e2 with z | ⟨p, rfl, z⟩
  · exact z
  · exfalso
    have z : (∃ o, (∃ xs, o = HO.dT xs) ∧ Rd H p o) ∨ ∃ o, (∃ xs, o = HO.dK xs) ∧ Rd H p o := z.imp (fun ⟨k, q, _⟩ => ⟨_, ⟨k, rfl⟩, q⟩) fun ⟨k, q, _⟩ => ⟨_, ⟨k, rfl⟩, q⟩
    have z : ∃ o, (∀ xs, o ≠ HO.lst xs) ∧ (∀ xs, o ≠ HO.tup xs) ∧ (∀ xs, HO.lst xs ≠ o) ∧ Rd H p o ∧ ∀ u v, o ≠ .frz u v := by
      rcases z with ⟨_, ⟨xs, rfl⟩, z⟩ | ⟨_, ⟨xs, rfl⟩, z⟩
      · exact ⟨.dT xs, (fun _ q => nomatch q), (fun _ q => nomatch q), (fun _ q => nomatch q), z, fun _ _ q => nomatch q⟩
      · exact ⟨.dK xs, (fun _ q => nomatch q), (fun _ q => nomatch q), (fun _ q => nomatch q), z, fun _ _ q => nomatch q⟩
    obtain ⟨o, n1, n2, n3, z, n4⟩ := z
    cases t with
    | dit ks ts => cases e
    | ctup ts => cases e
    | clst ts => cases e
    | dic ks ts => cases e
    | lst ts =>
      cases h with
      | sc h => exact h.elim
      | nd c _ =>
        rcases c with c | ⟨_, c⟩ <;> rcases z with z | ⟨_, z⟩ <;> rw [z] at c
        · exact n1 _ (Option.some.inj c)
        · cases c
        · exact n4 _ _ (Option.some.inj c)
        · cases c; exact n1 _ rfl
    | tup ts =>
      cases h with
      | sc h => exact h.elim
      | nd c _ =>
        have c : H p = _ := c
        rcases z with z | ⟨_, z⟩ <;> rw [z] at c
        · exact n2 _ (Option.some.inj c)
        · cases c
    | non => cases h.non
    | bl b => cases h.bl
    | int b => cases h.int
    | str b => cases h.str.1
    | ins c fs ts => cases e
    | gl x => cases e
    | ty n => cases e
def andV (f g : Qf) : Qf := fun δ => match f δ with
  | none => none
  | some t => match truW t with
    | some true => g δ
    | some false => some t
    | none => none
def orV (f g : Qf) : Qf := fun δ => match f δ with
  | none => none
  | some t => match truW t with
    | some true => some t
    | some false => g δ
    | none => none
def andW (f g : Dl → Rs) : Dl → Rs := fun δ => match f δ with
  | none => none
  | some (.error e, δ') => some (.error e, δ')
  | some (.ok t, δ') => match truW t with
    | some true => g δ'
    | some false => some (.ok t, δ')
    | none => none
def orW (f g : Dl → Rs) : Dl → Rs := fun δ => match f δ with
  | none => none
  | some (.error e, δ') => some (.error e, δ')
  | some (.ok t, δ') => match truW t with
    | some true => some (.ok t, δ')
    | some false => g δ'
    | none => none
section
variable {X : Cx} {K : PySem.W.Frag} {sh : Nat → Sh} {Wx : WX} {a b : Expr} {rest : List Expr} {pos : Pos} {f g : Qf} {u v : Dl → Rs} {op : BoolOp}
end
/-! ### a < b < c -/
def chQ (op op' : Op) (f g h : Qf) : Qf := fun δ => match f δ, g δ with
  | some x, some y => match op [x, y] with
    | some (.bl true) => match h δ with
      | some z => op' [y, z]
      | none => none
    | some (.bl false) => some (.bl false)
    | _ => none
  | _, _ => none
section
variable {X : Cx} {K : PySem.W.Frag} {sh : Nat → Sh} {Wx : WX} {a b c : Expr} {pos : Pos} {f g h : Qf} {o o' : CmpOp} {op op' : Op} {m1 m2 m3 : Md}
end
end NQ
namespace NQ
open PySem L2
/-! ### {k: v, ..} -/
def dispT (ks : List Key) : Op := fun ts => if ks.Nodup ∧ ks.length = ts.length ∧ ks.length ≤ 15 then some (.dic ks ts) else none
def fDisp (ks : List Key) (os : List Opd) : Dl → Rs := opn (dispT ks) os
section
variable {X : Cx} {K : PySem.W.Frag} {sh : Nat → Sh} {Wx : WX} {keys : List (Option Expr)} {values : List Expr} {pos : Pos} {ks : List Key} {os : List Opd}
end
/-! ### a, b = e -/
def sAsg (f : Dl → Rs) (g : Gf) : Sf := fun δ => match f δ with
  | none => none
  | some (.error e, δ') => some (.exc e, δ')
  | some (.ok t, δ') => match g t δ' with
    | some δ2 => some (.nx, δ2)
    | none => none
section
variable {X : Cx} {K : PySem.W.Frag} {c : Cf} {Wx : WX} {e tg : Expr} {pos : Pos} {f : Dl → Rs} {g : Gf} {ns : List Nat}
end
/-! ### from here on a thing of one's own is frozen, to the end of the block -/
def sFrz (i : Nat) (G : Sf) : Sf := fun δ => match dAt δ i with
  | none => none
  | some _ => match G δ with
    | none => none
    | some (fl, δ') => some (fl, δ'.set i none)
section
variable {K : PySem.W.Frag} {sh sh' : Nat → Sh} {W : Addr → Prop} {Y : List Addr} {Fm : Nat → List Addr} {H : Hp} {σ : L2.St} {δ : Dl} {i : Nat}
theorem Fr.resh (f : Fr K sh W Y Fm H σ δ) (h : ∀ j, j ≠ i → sh' j = sh j) (e : dAt δ i = none) : Fr K sh' W Y Fm H σ δ := by
  refine { f with rel := fun j t q => ?_ }
  obtain ⟨v, h1, h2⟩ := f.rel j t q
  have : j ≠ i := fun z => by rw [z, e] at q; cases q
  exact ⟨v, h1, by rw [h j this]; exact h2⟩
theorem dAt_set_none : ∀ {δ : Dl} {i : Nat}, dAt (δ.set i none) i = none
  | [], _ => rfl
  | _ :: _, 0 => rfl
  | _ :: r, i + 1 => dAt_set_none (δ := r) (i := i)
theorem dAt_same : ∀ {δ : Dl} {i : Nat} {t : T}, dAt δ i = some t → δ.set i (some t) = δ
  | [], _, _, h => by cases h
  | x :: r, 0, t, h => by show some t :: r = x :: r; rw [← show x = some t from h]
  | x :: r, i + 1, t, h => by show x :: r.set i (some t) = x :: r; rw [dAt_same (δ := r) h]
theorem Fr.drop (f : Fr K sh W Y Fm H σ δ) (h : Fm i = []) : Fr K sh W Y Fm H σ (δ.set i none) := by
  refine { f with rel := fun j t q => ?_, un := fun j q => ?_, len := by rw [List.length_set]; exact f.len }
  · by_cases z : j = i
    · subst z; rw [dAt_set_none] at q; cases q
    · rw [dAt_set_ne z] at q; exact f.rel j t q
  · by_cases z : j = i
    · subst z; exact h
    · rw [dAt_set_ne z] at q; exact f.un j q
theorem Fr.freeze {t : T} (f : Fr K sh W Y Fm H σ δ) (e : dAt δ i = some t) (hn : (sh i).pln = true) : Fr K (fun j => if j = i then .fz else sh j) W Y (fun j => if j = i then [] else Fm j) H σ δ := by
  obtain ⟨v, h1, h2⟩ := f.rel i t e
  have o := h2.own hn
  have f1 := (f.del i (some v)).let
  have f2 := f1.resh (i := i) (sh' := fun j => if j = i then .fz else sh j) (fun j z => if_neg z) dAt_set_none
  have d : Df K (Gw Y (fun j => if j = i then [] else Fm j) W) H v t := Ow.freeze (fun a z => ?_) o
  · have f3 := f2.set (i := i) (v := v) (t := t) (by simp) (.inr (by simp only [if_pos]; exact .fz d))
    rw [List.set_set, List.set_set] at f3
    have es : σ.set i (some v) = σ := by
      refine List.ext_getElem? fun j => ?_
      by_cases z : j = i
      · subst z; rw [List.getElem?_set_self (List.getElem?_eq_some_iff.mp h1).1, h1]
      · rw [List.getElem?_set_ne (fun w => z w.symm)]
    rw [es, dAt_same e] at f3
    exact f3
  · rcases z with (z | ⟨j, z⟩) | z
    · exact ⟨.inl (.inl z), f.xd i a z⟩
    · by_cases y : j = i
      · simp only [if_pos y] at z; exact absurd z List.not_mem_nil
      · simp only [if_neg y] at z
        exact ⟨.inl (.inr ⟨j, z⟩), f.dj j i a y z⟩
    · exact ⟨.inr z, fun w => f.dw i a w z⟩
end
section
variable {X : Cx} {K : PySem.W.Frag} {c : Cf} {Wx : WX} {rest : List Stmt} {G : Sf}
end
end NQ
namespace NQ
open PySem L2
section
variable {K : PySem.W.Frag} {b1 b2 : Bool}
end
section
variable {X : Cx} {K : PySem.W.Frag} {c : Cf} {sh : Nat → Sh} {Wx : WX} {st : Stmt} {rest : List Stmt} {e : Expr}
end
end NQ
namespace NQ
open PySem L2
/-! ### what the pure functions do, step by step -/
section
variable {F G : Sf} {f g h : Dl → Rs} {u v w : Qf} {a b : Qb} {t s : Dl → Rb} {δ : Dl} {i : Nat} {op op' : Op} {fs : List Qf} {os : List Opd} {x y : T} {ts : List T} {gp : Gf} {gs : Gfs} {its : Il}
theorem ap_set : sSet i f δ = match f δ with
  | none => none
  | some (.error e, δ') => some (.exc e, δ')
  | some (.ok t, δ') => some (.nx, δ'.set i (some t)) := (rfl)
theorem ap_setN : sSetN i f δ = match f δ with
  | none => none
  | some (.error e, δ') => some (.exc e, δ')
  | some (.ok t, δ') => if i < δ'.length then some (.nx, δ'.set i (some t)) else none := (rfl)
theorem ap_drop : sDrop f δ = match f δ with
  | none => none
  | some (.error e, δ') => some (.exc e, δ')
  | some (.ok _, δ') => some (.nx, δ') := (rfl)
theorem ap_ret : sRet f δ = match f δ with
  | none => none
  | some (.error e, δ') => some (.exc e, δ')
  | some (.ok t, δ') => some (.ret t, δ') := (rfl)
theorem ap_retV : sRetV i δ = match dAt δ i with
  | none => none
  | some t => some (.ret t, δ.set i none) := (rfl)
theorem ap_if : sIf t F G δ = match t δ with
  | none => none
  | some (.error e, δ') => some (.exc e, δ')
  | some (.ok true, δ') => F δ'
  | some (.ok false, δ') => G δ' := (rfl)
theorem ap_for : sFor its gp F δ = match its δ with
  | none => none
  | some (.error e, δ') => some (.exc e, δ')
  | some (.ok ts, δ') => forM ts gp F δ' := (rfl)
theorem ap_setIx : sSetIx i u f δ = match f δ with
  | none => none
  | some (.error e, δ') => some (.exc e, δ')
  | some (.ok w, δ') => match u δ' with
    | some (.int n) => match dAt δ' i with
      | some (.lst ts) => match setAt ts n w with
        | some ts' => some (.nx, δ'.set i (some (.lst ts')))
        | none => none
      | _ => none
    | _ => none := (rfl)
theorem ap_aug : sAug i op f δ = match dAt δ i with
  | some a => match f δ with
    | none => none
    | some (.error e, δ') => some (.exc e, δ')
    | some (.ok b, δ') => match op [a, b] with
      | some c => some (.nx, δ'.set i (some c))
      | none => none
  | none => none := (rfl)
theorem ap_asg : sAsg f gp δ = match f δ with
  | none => none
  | some (.error e, δ') => some (.exc e, δ')
  | some (.ok t, δ') => match gp t δ' with
    | some δ2 => some (.nx, δ2)
    | none => none := (rfl)
theorem ap_frz : sFrz i F δ = match dAt δ i with
  | none => none
  | some _ => match F δ with
    | none => none
    | some (fl, δ') => some (fl, δ'.set i none) := (rfl)
theorem ap_qE : qE u δ = match u δ with
  | none => none
  | some t => some (.ok t, δ) := (rfl)
theorem ap_opq : opq op fs δ = match evq fs δ with
  | none => none
  | some ts => op ts := (rfl)
theorem ap_opn : opn op os δ = match runs os δ with
  | none => none
  | some (.error e, δ') => some (.error e, δ')
  | some (.ok l, δ') => match res l δ' with
    | none => none
    | some ts => match op ts with
      | none => none
      | some c => some (.ok c, δ') := (rfl)
theorem ap_opnc : opnc op os δ = match runs os δ with
  | some (.ok l, δ') => match res l δ' with
    | none => none
    | some ts => match op ts with
      | none => none
      | some c => some (.ok c, δ')
  | _ => none := (rfl)
theorem ap_call {ps : List Sh} {Ff : List T → Fo} : fCall ps Ff os δ = match runs os δ with
  | none => none
  | some (.error e, δ') => some (.error e, δ')
  | some (.ok l, δ') => match res l δ' with
    | none => none
    | some ts => match Ff ts with
      | none => none
      | some (.ret t, ts') => if ts'.length = ps.length then some (.ok t, wb ps (skO os) ts' δ') else none
      | some (.exc e, ts') => if ts'.length = ps.length then some (.error e, wb ps (skO os) ts' δ') else none := (rfl)
theorem ap_app : fApp i f δ = match dAt δ i with
  | some (.lst _) => match f δ with
    | none => none
    | some (.error e, δ') => some (.error e, δ')
    | some (.ok u, δ') => match dAt δ' i with
      | some (.lst ts) => if ts.length < sizeLine then some (.ok .non, δ'.set i (some (.lst (ts ++ [u])))) else none
      | _ => none
  | _ => none := (rfl)
theorem ap_eV : eV i δ = dAt δ i := (rfl)
theorem ap_ifE : ifE t f g δ = match t δ with
  | none => none
  | some (.error e, δ') => some (.error e, δ')
  | some (.ok true, δ') => f δ'
  | some (.ok false, δ') => g δ' := (rfl)
theorem ap_ifQ : ifQ a u v δ = match a δ with
  | none => none
  | some true => u δ
  | some false => v δ := (rfl)
theorem ap_asB : asB u δ = match u δ with
  | some (.bl b) => some b
  | _ => none := (rfl)
theorem ap_asTru : asTru u δ = match u δ with
  | some t => truT t
  | none => none := (rfl)
theorem ap_asBE : asBE f δ = match f δ with
  | some (.ok (.bl b), δ') => some (.ok b, δ')
  | some (.error e, δ') => some (.error e, δ')
  | _ => none := (rfl)
theorem ap_asTruE : asTruE f δ = match f δ with
  | none => none
  | some (.error e, δ') => some (.error e, δ')
  | some (.ok t, δ') => match truT t with
    | some b => some (.ok b, δ')
    | none => none := (rfl)
theorem ap_qB : qB a δ = match a δ with
  | none => none
  | some b => some (.ok b, δ) := (rfl)
theorem ap_notQ : notQ a δ = match a δ with
  | some b => some (!b)
  | none => none := (rfl)
theorem ap_andQ : andQ a b δ = match a δ with
  | some true => b δ
  | some false => some false
  | none => none := (rfl)
theorem ap_orQ : orQ a b δ = match a δ with
  | some true => some true
  | some false => b δ
  | none => none := (rfl)
theorem ap_notE : notE t δ = match t δ with
  | none => none
  | some (.error e, δ') => some (.error e, δ')
  | some (.ok b, δ') => some (.ok (!b), δ') := (rfl)
theorem ap_andE : andE t s δ = match t δ with
  | none => none
  | some (.error e, δ') => some (.error e, δ')
  | some (.ok true, δ') => s δ'
  | some (.ok false, δ') => some (.ok false, δ') := (rfl)
theorem ap_orE : orE t s δ = match t δ with
  | none => none
  | some (.error e, δ') => some (.error e, δ')
  | some (.ok true, δ') => some (.ok true, δ')
  | some (.ok false, δ') => s δ' := (rfl)
theorem ap_andV : andV u v δ = match u δ with
  | none => none
  | some t => match truW t with
    | some true => v δ
    | some false => some t
    | none => none := (rfl)
theorem ap_orV : orV u v δ = match u δ with
  | none => none
  | some t => match truW t with
    | some true => some t
    | some false => v δ
    | none => none := (rfl)
theorem ap_andW : andW f g δ = match f δ with
  | none => none
  | some (.error e, δ') => some (.error e, δ')
  | some (.ok t, δ') => match truW t with
    | some true => g δ'
    | some false => some (.ok t, δ')
    | none => none := (rfl)
theorem ap_orW : orW f g δ = match f δ with
  | none => none
  | some (.error e, δ') => some (.error e, δ')
  | some (.ok t, δ') => match truW t with
    | some true => some (.ok t, δ')
    | some false => g δ'
    | none => none := (rfl)
theorem ap_chQ : chQ op op' u v w δ = match u δ, v δ with
  | some x, some y => match op [x, y] with
    | some (.bl true) => match w δ with
      | some z => op' [y, z]
      | none => none
    | some (.bl false) => some (.bl false)
    | _ => none
  | _, _ => none := (rfl)
theorem ap_gT : gT gs x δ = match seqT x with
  | some ts => gs ts δ
  | none => none := (rfl)
theorem ap_gCs : gCs gp gs (x :: ts) δ = match gp x δ with
  | some δ' => gs ts δ'
  | none => none := (rfl)
theorem ap_itE : itE f δ = match f δ with
  | none => none
  | some (.error e, δ') => some (.error e, δ')
  | some (.ok t, δ') => match itT t with
    | some ts => some (.ok ts, δ')
    | none => none := (rfl)
theorem ap_itR1 : itR1 f δ = match f δ with
  | some (.ok (.int j), δ') => if -(2 ^ 62) ≤ j ∧ j < 2 ^ 62 then some (.ok ((List.range j.toNat).map fun i => T.int (0 + (i : Nat))), δ') else none
  | some (.error e, δ') => some (.error e, δ')
  | _ => none := (rfl)
theorem ap_itR2 : itR2 f g δ = match f δ with
  | some (.ok (.int i), δ1) => match g δ1 with
    | some (.ok (.int j), δ') => if -(2 ^ 62) ≤ i ∧ i < 2 ^ 62 ∧ -(2 ^ 62) ≤ j ∧ j < 2 ^ 62 then some (.ok ((List.range (j - i).toNat).map fun n => T.int (i + (n : Nat))), δ') else none
    | some (.error e, δ') => some (.error e, δ')
    | _ => none
  | some (.error e, δ') => some (.error e, δ')
  | _ => none := (rfl)
theorem ap_itEn : itEn f δ = match f δ with
  | some (.ok (.lst ts), δ') => some (.ok (enT ts), δ')
  | some (.error e, δ') => some (.error e, δ')
  | _ => none := (rfl)
theorem ap_lcE {vs : List Nat} : lcE its gp t f vs δ = match its δ with
  | none => none
  | some (.error e, δ') => some (.error e, δ')
  | some (.ok ts, δ') => if ts.length < sizeLine then (match lcL gp t f vs ts (wipeD δ' vs) with
    | some (us, δ2) => some (.ok (.lst us), δ2)
    | none => none) else none := (rfl)
theorem ap_alt {f g : Op} : altT f g ts = match f ts with
  | some c => some c
  | none => g ts := (rfl)
theorem ap_fn {ps : List Sh} {m : Nat} {rs : Sh} : fnT ps m rs F ts = match F (ts.map some ++ List.replicate m none) with
  | some (.nx, δ) => if rs.nilOk then (match fin ps ts δ with | some l => some (.ret .non, l) | none => none) else none
  | some (.ret t, δ) => match fin ps ts δ with | some l => some (.ret t, l) | none => none
  | some (.exc e, δ) => match fin ps ts δ with | some l => some (.exc e, l) | none => none
  | _ => none := (rfl)
theorem d0 {r : Dl} {z : Option T} : dAt (z :: r) 0 = z := (rfl)
/-! ### a loop keeps what it keeps -/
end
end NQ
namespace NQ
open PySem L2
/-! ### what the operations do -/
section
variable {i j k n : Int} {a b s : Str} {x y z t u : T} {xs ys ts : List T} {ks : List Key} {c d : Bool} {f : Int → Int → Bool}
theorem o_adds : addR [.str a, .str b] = if a.length + b.length ≤ sizeLine then some (.str (a ++ b)) else none := (rfl)
theorem o_addAs (h : a.length + b.length ≤ sizeLine) : addA [.str a, .str b] = some (.str (a ++ b)) := by simp only [ap_alt, o_adds, if_pos h]
theorem o_addL : addL [.lst xs, .lst ys] = if xs.length + ys.length ≤ sizeLine then some (.lst (xs ++ ys)) else none := (rfl)
theorem o_addAl : addA [.lst xs, .lst ys] = if xs.length + ys.length ≤ sizeLine then some (.lst (xs ++ ys)) else none := (rfl)
theorem o_muli : mulR [.int i, .int j] = if (-(2 ^ 64) < i ∧ i < 2 ^ 64) ∨ (-(2 ^ 64) < j ∧ j < 2 ^ 64) ∨ i.natAbs.log2 + j.natAbs.log2 < 1000000 then some (.int (i * j)) else none := (rfl)
theorem o_muls : mulR [.str a, .int n] = if -(2 ^ 20) < n ∧ n < 2 ^ 20 ∧ a.length * n.toNat ≤ 1000000 then some (.str (Txt.mul a n)) else none := (rfl)
theorem o_mulL : mulL [.lst xs, .int n] = if -(2 ^ 63) ≤ n ∧ n < 2 ^ 63 ∧ xs.length * n.toNat ≤ sizeLine then some (.lst (List.replicate n.toNat xs).flatten) else none := (rfl)
theorem o_mulAi (h : (-(2 ^ 64) < i ∧ i < 2 ^ 64) ∨ (-(2 ^ 64) < j ∧ j < 2 ^ 64) ∨ i.natAbs.log2 + j.natAbs.log2 < 1000000) : mulA [.int i, .int j] = some (.int (i * j)) := by simp only [ap_alt, o_muli, if_pos h]
theorem o_mulAl : mulA [.lst xs, .int n] = if -(2 ^ 63) ≤ n ∧ n < 2 ^ 63 ∧ xs.length * n.toNat ≤ sizeLine then some (.lst (List.replicate n.toNat xs).flatten) else none := (rfl)
theorem o_modi : modT [.int i, .int j] = if 0 < j then some (.int (i % j)) else none := (rfl)
theorem o_divi : divT [.int i, .int j] = if 0 < j ∧ j.natAbs.log2 < 9000 then some (.int (i / j)) else none := (rfl)
theorem log_lt {n : Nat} (h : n < 1000000000000) : n.log2 < 9000 := by
  by_cases z : n = 0
  · rw [z]; decide
  · exact Nat.lt_trans ((Nat.log2_lt z).mpr (show n < 2 ^ 40 by omega)) (by decide)
theorem o_divs (h0 : 0 < j) (h1 : j < 1000000000000) : divT [.int i, .int j] = some (.int (i / j)) := by
  rw [o_divi, if_pos ⟨h0, log_lt (by omega)⟩]
theorem o_powi : powT [.int i, .int j] = if 0 ≤ j ∧ j ≤ 1000000 ∧ i.natAbs < 2 ^ 64 then some (.int (i ^ j.toNat)) else none := (rfl)
theorem o_pows (h0 : 0 ≤ j) (h1 : j ≤ 1000000) (h2 : -18446744073709551616 < i) (h3 : i < 18446744073709551616) : powT [.int i, .int j] = some (.int (i ^ j.toNat)) := by
  rw [o_powi, if_pos ⟨h0, h1, by omega⟩]
theorem sz_eq : sizeLine = 16777216 := (rfl)
theorem o_eq : eqT [x, y] = match eqB x y with | some b => some (.bl b) | none => none := (rfl)
theorem o_ne : neT [x, y] = match eqB x y with | some b => some (.bl (!b)) | none => none := (rfl)
theorem o_len_s : lenT [.str a] = if a.length ≤ sizeLine then some (.int a.length) else none := (rfl)
theorem o_list_s : listA [.str a] = if a.length ≤ sizeLine then some (.lst ((NL.sgn a).map T.str)) else none := (rfl)
theorem o_lst : lstT ts = if ts.length ≤ sizeLine then some (.lst ts) else none := (rfl)
theorem o_tup : tupT ts = if ts.length ≤ sizeLine then some (.tup ts) else none := (rfl)
theorem o_disp : dispT ks ts = if ks.Nodup ∧ ks.length = ts.length ∧ ks.length ≤ 15 then some (.dic ks ts) else none := (rfl)
theorem o_split : splitT [.str a, .str b] = if (b.length == 0) = false ∧ a.length + 2 ≤ sizeLine then some (.lst ((Txt.split a b).map T.str)) else none := (rfl)
theorem o_words : wordsT [.str a] = if a.length + 2 ≤ sizeLine then some (.lst ((Txt.words a).map T.str)) else none := (rfl)
theorem o_strip : stripT [.str a] = if a.length ≤ sizeLine then some (.str (Txt.strip a)) else none := (rfl)
theorem o_join {l : List Str} : joinT [.str a, .lst (l.map T.str)] = if (l.map (·.length)).sum + l.length * a.length ≤ 16777216 then some (.str (Txt.join a l)) else none := by
  unfold joinT
  simp only [seqT, strs_map]
theorem o_slS1 : slS true false [.str a, .int i] = if a.length ≤ sizeLine then some (.str (cutS a (some i) none)) else none := (rfl)
theorem o_slS2 : slS false true [.str a, .int i] = if a.length ≤ sizeLine then some (.str (cutS a none (some i))) else none := (rfl)
theorem o_slS3 : slS true true [.str a, .int i, .int j] = if a.length ≤ sizeLine then some (.str (cutS a (some i) (some j))) else none := (rfl)
theorem o_ixR_l : ixRA [.lst xs, .int i] = match atI xs i with
    | some t => if t.isS then some t else none
    | none => none := by
  simp only [ap_alt, ixR, seqT]
  cases atI xs i with
  | none => rfl
  | some t => cases h : t.isS <;> simp [h, dgetR, dlook]
theorem o_ixR_t : ixRA [.tup xs, .int i] = match atI xs i with
    | some t => if t.isS then some t else none
    | none => none := by
  simp only [ap_alt, ixR, seqT]
  cases atI xs i with
  | none => rfl
  | some t => cases h : t.isS <;> simp [h, dgetR, dlook]
theorem o_ix_l : ixA [.lst xs, .int i] = atI xs i := by
  simp only [ap_alt, o_ixR_l, ixR, seqT, ixD, dgetR, dgetD, dlook]
  cases atI xs i with
  | none => rfl
  | some t => cases h : t.isS <;> simp [h]
theorem o_ix_t : ixA [.tup xs, .int i] = atI xs i := by
  simp only [ap_alt, o_ixR_t, ixR, seqT, ixD, dgetR, dgetD, dlook]
  cases atI xs i with
  | none => rfl
  | some t => cases h : t.isS <;> simp [h]
theorem o_ix_s : ixA [.str a, .int i] = if a.length ≤ sizeLine then (match atI a.cps.toList i with | some c => some (.str ⟨#[c]⟩) | none => none) else none := by
  simp only [ap_alt, ixR, ixD, dgetR, dgetD, dlook]
  by_cases h : a.length ≤ sizeLine
  · simp only [if_pos h]
    cases atI a.cps.toList i <;> rfl
  · simp only [if_neg h]
theorem o_ix_d {k : Key} (h : x.key = some k) : ixA [.dic ks xs, x] = lookT ks xs k := by
  have e1 : ixR [.dic ks xs, x] = none := by cases x <;> rfl
  have e2 : ixD [.dic ks xs, x] = none := by cases x <;> rfl
  simp only [ap_alt, e1, e2, dgetR, dgetD, dlook, h]
  cases lookT ks xs k with
  | none => rfl
  | some t => cases h : t.isS <;> simp [h]
theorem o_in (h : memB x y = some c) : inA [x, y] = some (.bl c) := by
  simp only [ap_alt, inT, h]
theorem o_nin (h : memB x y = some c) : ninA [x, y] = some (.bl (!c)) := by
  simp only [ap_alt, ninT, h]
theorem o_isi {m q : String} (h : x.tyn = some m) (h2 : subB m q = some c) : isiT [x, .ty q] = some (.bl c) := by
  simp only [isiT, h, h2]
theorem tru_b : truT (.bl c) = some c := (rfl)
theorem tru_i : truT (.int i) = some (i != 0) := (rfl)
theorem tru_n : truT .non = some false := (rfl)
theorem tru_s : truT (.str a) = if a.length ≤ sizeLine then some ((a.length : Int) != 0) else none := (rfl)
theorem ixN_nat {m n : Nat} (h : n < m) : ixN m (n : Int) = some n := by
  unfold ixN
  rw [if_pos (by omega), if_pos (by omega)]
  rfl
theorem atI_nat {α : Type} {xs : List α} {n : Nat} (h : n < xs.length) : atI xs (n : Int) = xs[n]? := by
  unfold atI
  rw [ixN_nat h]
  rfl
theorem atI0 {α : Type} {x : α} {r : List α} : atI (x :: r) 0 = some x := atI_nat (n := 0) (by simp)
theorem atI1 {α : Type} {x y : α} {r : List α} : atI (x :: y :: r) 1 = some y := atI_nat (n := 1) (by simp)
end
end NQ
namespace NQ
open PySem L2
/-! ### the law's own call -/
end NQ
namespace NQ
open PySem L2
/-! ### one-step equations that the kernel need not unfold -/
section
variable {δ r : Dl} {f : Dl → Rs} {os : List Opd} {i j : Nat} {t u : T} {ts us : List T} {q : Qf} {qs : List Qf} {l : List (Nat ⊕ T)} {s : Sh} {ss : List Sh} {k : List (Option Nat)} {x y : Option T}
theorem rnV : runs (.var i :: os) δ = match dAt δ i with
    | none => none
    | some _ => match runs os δ with
      | none => none
      | some (.error e, δ') => some (.error e, δ')
      | some (.ok l, δ') => some (.ok (.inl i :: l), δ') := (rfl)
theorem rnE : runs (.val f :: os) δ = match f δ with
    | none => none
    | some (.error e, δ') => some (.error e, δ')
    | some (.ok t, δ1) => match runs os δ1 with
      | none => none
      | some (.error e, δ') => some (.error e, δ')
      | some (.ok l, δ') => some (.ok (.inr t :: l), δ') := (rfl)
theorem evS : evq (q :: qs) δ = match q δ with
    | none => none
    | some t => match evq qs δ with
      | none => none
      | some ts => some (t :: ts) := (rfl)
theorem rsV : res (.inl i :: l) δ = match dAt δ i, res l δ with
    | some t, some ts => some (t :: ts)
    | _, _ => none := (rfl)
theorem rsE : res (.inr t :: l) δ = match res l δ with
    | some ts => some (t :: ts)
    | none => none := (rfl)
theorem sk0 : skO [] = [] := (rfl)
theorem skV : skO (.var i :: os) = some i :: skO os := (rfl)
theorem skE : skO (.val f :: os) = none :: skO os := (rfl)
theorem wb0 : wb [] k us δ = δ := by cases k <;> rfl
theorem wbV : wb (s :: ss) (some i :: k) (t :: ts) δ = wb ss k ts (if s.isO then δ.set i (some t) else δ) := (rfl)
theorem wbE : wb (s :: ss) (none :: k) (t :: ts) δ = wb ss k ts δ := by cases s <;> rfl
theorem fin0 : fin [] [] δ = some [] := by cases δ <;> rfl
theorem finS : fin (s :: ss) (t :: ts) (x :: δ) = match fin ss ts δ with
    | none => none
    | some l => if s.isO then (match x with | some u => some (u :: l) | none => none) else some (t :: l) := (rfl)
theorem isO_fz : Sh.isO .fz = false := (rfl)
theorem isO_vw : Sh.isO .vw = false := (rfl)
theorem isO_all : Sh.isO (.all s) = true := (rfl)
theorem isO_opt : Sh.isO (.opt s) = true := (rfl)
theorem isO_flds {d : List (Str × Sh)} : Sh.isO (.flds d) = true := (rfl)
theorem isO_row : Sh.isO (.row ss) = true := (rfl)
theorem wp0 : wipeD δ [] = δ := (rfl)
theorem wpS {vs : List Nat} : wipeD δ (i :: vs) = (wipeD δ vs).set i none := (rfl)
theorem st0 {α : Type} {a b : α} {l : List α} : (a :: l).set 0 b = b :: l := (rfl)
theorem stS {α : Type} {a b : α} {l : List α} {n : Nat} : (a :: l).set (n + 1) b = a :: l.set n b := (rfl)
theorem mp0 {α β : Type} {g : α → β} : [].map g = [] := (rfl)
theorem mpS {α β : Type} {g : α → β} {a : α} {l : List α} : (a :: l).map g = g a :: l.map g := (rfl)
theorem ap0 {α : Type} {l : List α} : [] ++ l = l := (rfl)
theorem apS {α : Type} {a : α} {l m : List α} : a :: l ++ m = a :: (l ++ m) := (rfl)
theorem rp0 {α : Type} {a : α} : List.replicate 0 a = [] := (rfl)
theorem rpS {α : Type} {a : α} {n : Nat} : List.replicate (n + 1) a = a :: List.replicate n a := (rfl)
end
end NQ
namespace NQ
open PySem L2
/-! ### raise -/
def sRaise (c fld : Str) (f : Dl → Rs) : Sf := fun δ => match f δ with
  | none => none
  | some (.error e, δ') => some (.exc e, δ')
  | some (.ok t, δ') => some (.exc ⟨c, fld, t⟩, δ')
section
variable {X : Cx} {K : PySem.W.Frag} {c : Cf} {Wx : WX} {e : Expr} {f : Dl → Rs} {x fld : Str} {k : Nat} {p pos pos2 : Pos}
end
/-! ### match over texts -/
/-- the cases, by the text -/
abbrev Mf := Str → Sf
def mNil : Mf := fun _ => sNext
def mCs (ks : List Str) (F : Sf) (R : Mf) : Mf := fun a => if a ∈ ks then F else R a
def mCg (ks : List Str) (g : Dl → Rb) (F : Sf) (R : Mf) : Mf := fun a => if a ∈ ks then sIf g F (R a) else R a
def mAny (F : Sf) : Mf := fun _ => F
def sMatch (f : Dl → Rs) (M : Mf) : Sf := fun δ => match f δ with
  | none => none
  | some (.error e, δ') => some (.exc e, δ')
  | some (.ok (.str a), δ') => M a δ'
  | some (.ok _, _) => none
section
variable {X : Cx} {K : PySem.W.Frag} {c : Cf} {Wx : WX} {e : Expr} {f : Dl → Rs} {F : Sf} {M : Mf} {p : Pattern} {ks : List Str} {b : List Stmt} {r : List MatchCase} {pos : Pos}
end
end NQ
namespace NQ
open PySem L2
/-! ### try: body, except x as n: suite; except x: suite -/
def Cf.xcAt (c : Cf) (i : Nat) (a d : Addr) (cl fl : Str) : Cf := { c with sh := fun j => if j = i then .xc a d cl fl else c.sh j }
/-- which classes of exceptions are of the class c; those that are have the field fl -/
def ExT (K : PySem.W.Frag) (c : Value) (fl : Str) : List (Str × Bool) → Prop
  | [] => True
  | (x, b) :: r => PySem.W.exmOne K (.ref (He.ga K x)) c = some b ∧ (b = true → XfC K (He.ga K x) ∧ PySem.W.findIn K (.ref (He.ga K x)) fl = some none) ∧ ExT K c fl r
theorem ExT.at {K : PySem.W.Frag} {c : Value} {fl : Str} : ∀ {l : List (Str × Bool)} {x : Str} {b : Bool}, ExT K c fl l → l.lookup x = some b → PySem.W.exmOne K (.ref (He.ga K x)) c = some b ∧ (b = true → XfC K (He.ga K x) ∧ PySem.W.findIn K (.ref (He.ga K x)) fl = some none)
  | [], _, _, _, h => by simp at h
  | (y, d) :: r, x, b, ⟨h1, h2, h3⟩, e => by
    rw [List.lookup_cons] at e
    split at e
    · rename_i q
      cases e
      rw [eq_of_beq q]
      exact ⟨h1, h2⟩
    · exact ExT.at h3 e
def sTryAs (m : List (Str × Bool)) (fl : Str) (i : Nat) (F : Sf) (G : Xn → Sf) : Sf := fun δ => match F δ with
  | some (.exc e, δ') => match m.lookup e.cls with
    | some true => if e.fld = fl ∧ i < δ'.length then (match G e (δ'.set i (some e.val)) with
      | some (.exc _, _) => none
      | some (fl, δ2) => some (fl, δ2.set i none)
      | none => none) else none
    | some false => some (.exc e, δ')
    | none => none
  | r => r
/-- the same without the exception's name -/
def ExO (K : PySem.W.Frag) (c : Value) : List (Str × Bool) → Prop
  | [] => True
  | (x, b) :: r => PySem.W.exmOne K (.ref (He.ga K x)) c = some b ∧ ExO K c r
theorem ExO.at {K : PySem.W.Frag} {c : Value} : ∀ {l : List (Str × Bool)} {x : Str} {b : Bool}, ExO K c l → l.lookup x = some b → PySem.W.exmOne K (.ref (He.ga K x)) c = some b
  | [], _, _, _, h => by simp at h
  | (y, d) :: r, x, b, ⟨h1, h2⟩, e => by
    rw [List.lookup_cons] at e
    split at e
    · rename_i q
      cases e
      rw [eq_of_beq q]
      exact h1
    · exact ExO.at h2 e
def sTry (m : List (Str × Bool)) (F : Sf) (G : Sf) : Sf := fun δ => match F δ with
  | some (.exc e, δ') => match m.lookup e.cls with
    | some true => (match G δ' with
      | some (.exc _, _) => none
      | r => r)
    | some false => some (.exc e, δ')
    | none => none
  | r => r
section
variable {X : Cx} {K : PySem.W.Frag} {c : Cf} {Wx : WX} {F : Sf} {G : Xn → Sf} {m : List (Str × Bool)} {i : Nat} {x n : Str} {cv : Value} {body suite : List Stmt} {b₀ : Stmt} {np pos pos' : Pos}
/-! ### in the suite: e.f, isinstance(e, C) -/
variable {sh : Nat → Sh} {a d : Addr} {oe : Obj} {pn : List (Addr × Obj)} {cl fl : Str} {o : Expr}
end
end NQ
namespace NQ
open PySem L2
/-! ### walking through the pure functions: what comes of them, wished for -/
/-- a state that is to be written out -/
def Nm (X : Dl) (P : Dl → Prop) : Prop := P X
theorem nm_eq {X Y : Dl} {P : Dl → Prop} (e : X = Y) (z : P Y) : Nm X P := by subst e; exact z
def Is {α : Type} (t : T) (mk : α → T) (P : α → Prop) : Prop := ∃ k, t = mk k ∧ P k
theorem is_mk {α : Type} {k : α} {mk : α → T} {P : α → Prop} (z : P k) : Is (mk k) mk P := ⟨k, rfl, z⟩
def At (δ : Dl) (i : Nat) (P : T → Prop) : Prop := ∃ t, dAt δ i = some t ∧ P t
theorem at_mk {δ : Dl} {i : Nat} {t : T} {P : T → Prop} (e : dAt δ i = some t) (z : P t) : At δ i P := ⟨t, e, z⟩
def So {α : Type} (o : Option α) (P : α → Prop) : Prop := ∃ t, o = some t ∧ P t
theorem so_mk {α : Type} {o : Option α} {t : α} {P : α → Prop} (e : o = some t) (z : P t) : So o P := ⟨t, e, z⟩
def S2 {α β : Type} (o : Option (α × β)) (P : α → β → Prop) : Prop := ∃ t u, o = some (t, u) ∧ P t u
theorem s2_mk {α β : Type} {o : Option (α × β)} {t : α} {u : β} {P : α → β → Prop} (e : o = some (t, u)) (z : P t u) : S2 o P := ⟨t, u, e, z⟩
def Sd (c P : Prop) : Prop := c ∧ P
theorem sd_mk {c P : Prop} (h : c) (z : P) : Sd c P := ⟨h, z⟩
def Fn (ps : List Sh) (ts : List T) (δ : Dl) (P : List T → Prop) : Prop := ∃ l, fin ps ts δ = some l ∧ P l
theorem fn_mk {ps : List Sh} {ts : List T} {δ : Dl} {l : List T} {P : List T → Prop} (e : fin ps ts δ = some l) (z : P l) : Fn ps ts δ P := ⟨l, e, z⟩
def Ws (r : Ss) (N B C : Dl → Prop) (R : T → Dl → Prop) (E : Xn → Dl → Prop) : Prop := match r with
  | none => False
  | some (.nx, δ) => N δ
  | some (.brk, δ) => B δ
  | some (.cont, δ) => C δ
  | some (.ret t, δ) => R t δ
  | some (.exc e, δ) => E e δ
def We (r : Rs) (Q : T → Dl → Prop) (E : Xn → Dl → Prop) : Prop := match r with
  | none => False
  | some (.ok t, δ) => Q t δ
  | some (.error e, δ) => E e δ
def Wq (r : Option T) (Q : T → Prop) : Prop := match r with
  | none => False
  | some t => Q t
def Wb (r : Rb) (Q : Bool → Dl → Prop) (E : Xn → Dl → Prop) : Prop := match r with
  | none => False
  | some (.ok t, δ) => Q t δ
  | some (.error e, δ) => E e δ
def Wt (r : Option Bool) (Q : Bool → Prop) : Prop := match r with
  | none => False
  | some t => Q t
def Wl (r : Option (List T)) (Q : List T → Prop) : Prop := match r with
  | none => False
  | some t => Q t
def Wa (os : List Opd) (δ : Dl) (Q : List T → Dl → Prop) (E : Xn → Dl → Prop) : Prop := match runs os δ with
  | none => False
  | some (.error e, δ') => E e δ'
  | some (.ok l, δ') => match res l δ' with
    | none => False
    | some ts => Q ts δ'
def Wi (r : Option (Except Xn (List T) × Dl)) (Q : List T → Dl → Prop) (E : Xn → Dl → Prop) : Prop := match r with
  | none => False
  | some (.ok t, δ) => Q t δ
  | some (.error e, δ) => E e δ
def Wd (r : Option Dl) (Q : Dl → Prop) : Prop := match r with
  | none => False
  | some t => Q t
def Wf (r : Fo) (R : T → List T → Prop) (E : Xn → List T → Prop) : Prop := match r with
  | none => False
  | some (.ret t, l) => R t l
  | some (.exc e, l) => E e l
theorem wf_eq {r : Fo} {t : T} {l : List T} {R : T → List T → Prop} {E : Xn → List T → Prop} (e : r = some (.ret t, l)) (h : R t l) : Wf r R E := by rw [e]; exact h
theorem wf_eqX {r : Fo} {x : Xn} {l : List T} {R : T → List T → Prop} {E : Xn → List T → Prop} (e : r = some (.exc x, l)) (h : E x l) : Wf r R E := by rw [e]; exact h
theorem wf_or {r : Fo} {P : T → List T → Prop} {P2 : Xn → List T → Prop} (h : Wf r P P2) : (∃ t l, r = some (.ret t, l) ∧ P t l) ∨ ∃ e l, r = some (.exc e, l) ∧ P2 e l := by
  unfold Wf at h
  split at h
  · exact h.elim
  · exact .inl ⟨_, _, rfl, h⟩
  · exact .inr ⟨_, _, rfl, h⟩
theorem we_c {r : Rs} {Q : T → Dl → Prop} {E : Xn → Dl → Prop} (h : We r Q E) : (∃ t δ, r = some (.ok t, δ) ∧ Q t δ) ∨ ∃ e δ, r = some (.error e, δ) ∧ E e δ := by
  unfold We at h
  split at h
  · exact h.elim
  · exact .inl ⟨_, _, rfl, h⟩
  · exact .inr ⟨_, _, rfl, h⟩
theorem wb_c {r : Rb} {Q : Bool → Dl → Prop} {E : Xn → Dl → Prop} (h : Wb r Q E) : (∃ t δ, r = some (.ok t, δ) ∧ Q t δ) ∨ ∃ e δ, r = some (.error e, δ) ∧ E e δ := by
  unfold Wb at h
  split at h
  · exact h.elim
  · exact .inl ⟨_, _, rfl, h⟩
  · exact .inr ⟨_, _, rfl, h⟩
theorem wi_c {r : Option (Except Xn (List T) × Dl)} {Q : List T → Dl → Prop} {E : Xn → Dl → Prop} (h : Wi r Q E) : (∃ t δ, r = some (.ok t, δ) ∧ Q t δ) ∨ ∃ e δ, r = some (.error e, δ) ∧ E e δ := by
  unfold Wi at h
  split at h
  · exact h.elim
  · exact .inl ⟨_, _, rfl, h⟩
  · exact .inr ⟨_, _, rfl, h⟩
theorem wa_c {os : List Opd} {δ : Dl} {Q : List T → Dl → Prop} {E : Xn → Dl → Prop} (h : Wa os δ Q E) : (∃ l δ' ts, runs os δ = some (.ok l, δ') ∧ res l δ' = some ts ∧ Q ts δ') ∨ ∃ e δ', runs os δ = some (.error e, δ') ∧ E e δ' := by
  unfold Wa at h
  split at h
  · exact h.elim
  · rename_i e; exact .inr ⟨_, _, e, h⟩
  · rename_i e
    split at h
    · exact h.elim
    · rename_i e2; exact .inl ⟨_, _, _, e, e2, h⟩
theorem wt_ex {r : Option Bool} {P : Bool → Prop} (h : Wt r P) : ∃ t, r = some t ∧ P t := by
  cases r with
  | none => exact h.elim
  | some t => exact ⟨t, rfl, h⟩
theorem wl_ex {r : Option (List T)} {P : List T → Prop} (h : Wl r P) : ∃ t, r = some t ∧ P t := by
  cases r with
  | none => exact h.elim
  | some t => exact ⟨t, rfl, h⟩
theorem wd_ex {r : Option Dl} {P : Dl → Prop} (h : Wd r P) : ∃ t, r = some t ∧ P t := by
  cases r with
  | none => exact h.elim
  | some t => exact ⟨t, rfl, h⟩
theorem ws_c {r : Ss} {N B C : Dl → Prop} {R : T → Dl → Prop} {E : Xn → Dl → Prop} (h : Ws r N B C R E) : ∃ f δ, r = some (f, δ) ∧ Ws (some (f, δ)) N B C R E := by
  cases r with
  | none => exact h.elim
  | some p => exact ⟨p.1, p.2, rfl, h⟩
theorem wq_eq {r : Option T} {t : T} {R : T → Prop} (e : r = some t) (h : R t) : Wq r R := by rw [e]; exact h
theorem wq_ex {r : Option T} {P : T → Prop} (h : Wq r P) : ∃ t, r = some t ∧ P t := by
  cases r with
  | none => exact h.elim
  | some t => exact ⟨t, rfl, h⟩
section
variable {F G : Sf} {f g h : Dl → Rs} {u v w : Qf} {a b : Qb} {t s : Dl → Rb} {δ δ2 : Dl} {i : Nat} {op op' : Op} {fs : List Qf} {os : List Opd} {x y : T} {ts : List T} {gp : Gf} {gs : Gfs} {its : Il}
variable {N B C : Dl → Prop} {R : T → Dl → Prop} {E : Xn → Dl → Prop} {Q : T → Dl → Prop} {q : T → Prop} {QB : Bool → Dl → Prop} {qb : Bool → Prop} {QL : List T → Dl → Prop} {ql : List T → Prop} {QD : Dl → Prop}
/-! statements -/
theorem ws_seq (z : Ws (F δ) (fun δ' => Ws (G δ') N B C R E) B C R E) : Ws (sSeq F G δ) N B C R E := by
  unfold sSeq
  cases e : F δ with
  | none => rw [e] at z; exact z.elim
  | some p =>
    obtain ⟨fl, δ'⟩ := p
    rw [e] at z
    cases fl <;> exact z
theorem ws_next (z : N δ) : Ws (sNext δ) N B C R E := z
theorem ws_brk (z : B δ) : Ws (sBrk δ) N B C R E := z
theorem ws_cont (z : C δ) : Ws (sCont δ) N B C R E := z
theorem ws_set (z : We (f δ) (fun t δ' => Nm (δ'.set i (some t)) N) E) : Ws (sSet i f δ) N B C R E := by
  rw [ap_set]
  rcases we_c z with ⟨t0, d0, e0, z⟩ | ⟨t0, d0, e0, z⟩ <;> simp only [e0]
  · exact z
  · exact z
theorem ws_setN (z : We (f δ) (fun t δ' => Sd (i < δ'.length) (Nm (δ'.set i (some t)) N)) E) : Ws (sSetN i f δ) N B C R E := by
  rw [ap_setN]
  rcases we_c z with ⟨t0, d0, e0, z⟩ | ⟨t0, d0, e0, z⟩ <;> simp only [e0]
  · simp only [z.1, if_true]; exact z.2
  · exact z
theorem ws_drop (z : We (f δ) (fun t δ' => N δ') E) : Ws (sDrop f δ) N B C R E := by
  rw [ap_drop]
  rcases we_c z with ⟨t0, d0, e0, z⟩ | ⟨t0, d0, e0, z⟩ <;> simp only [e0]
  · exact z
  · exact z
theorem ws_ret (z : We (f δ) (fun t δ' => R t δ') E) : Ws (sRet f δ) N B C R E := by
  rw [ap_ret]
  rcases we_c z with ⟨t0, d0, e0, z⟩ | ⟨t0, d0, e0, z⟩ <;> simp only [e0]
  · exact z
  · exact z
theorem ws_retV (e : dAt δ i = some x) (z : Nm (δ.set i none) (R x)) : Ws (sRetV i δ) N B C R E := by
  rw [ap_retV, e]; exact z
theorem ws_retN (z : R .non δ) : Ws (sRetN δ) N B C R E := z
theorem ws_if (z : Wb (t δ) (fun c δ' => if c = true then Ws (F δ') N B C R E else Ws (G δ') N B C R E) E) : Ws (sIf t F G δ) N B C R E := by
  rw [ap_if]
  rcases wb_c z with ⟨t0, d0, e0, z⟩ | ⟨t0, d0, e0, z⟩ <;> simp only [e0]
  · cases t0 <;> exact z
  · exact z
theorem ws_for (z : Wi (its δ) (fun ts δ' => Ws (forM ts gp F δ') N B C R E) E) : Ws (sFor its gp F δ) N B C R E := by
  rw [ap_for]
  rcases wi_c z with ⟨t0, d0, e0, z⟩ | ⟨t0, d0, e0, z⟩ <;> simp only [e0]
  · exact z
  · exact z
theorem ws_setIx (z : We (f δ) (fun w δ' => Wq (u δ') fun k => Is k T.int fun n => At δ' i fun x => Is x T.lst fun us => So (setAt us n w) fun us' => Nm (δ'.set i (some (.lst us'))) N) E) : Ws (sSetIx i u f δ) N B C R E := by
  rw [ap_setIx]
  rcases we_c z with ⟨t0, d0, e0, z⟩ | ⟨t0, d0, e0, z⟩ <;> simp only [e0]
  · obtain ⟨k, e1, n, rfl, x, e2, us, rfl, us', e3, z⟩ := wq_ex z
    simp only [e1, e2, e3]; exact z
  · exact z
theorem ws_aug (e : dAt δ i = some x) (z : We (f δ) (fun y δ' => Wq (op [x, y]) fun c => Nm (δ'.set i (some c)) N) E) : Ws (sAug i op f δ) N B C R E := by
  rw [ap_aug, e]
  rcases we_c z with ⟨t0, d0, e0, z⟩ | ⟨t0, d0, e0, z⟩ <;> simp only [e0]
  · obtain ⟨c, e1, z⟩ := wq_ex z
    simp only [e1]; exact z
  · exact z
theorem ws_asg (z : We (f δ) (fun t δ' => Wd (gp t δ') N) E) : Ws (sAsg f gp δ) N B C R E := by
  rw [ap_asg]
  rcases we_c z with ⟨t0, d0, e0, z⟩ | ⟨t0, d0, e0, z⟩ <;> simp only [e0]
  ·
    obtain ⟨c0, e0, z⟩ := wd_ex z
    simp only [e0]; exact z
  · exact z
theorem ws_frz (e : dAt δ i = some x) (z : Ws (F δ) (fun δ' => Nm (δ'.set i none) N) (fun δ' => Nm (δ'.set i none) B) (fun δ' => Nm (δ'.set i none) C) (fun t δ' => Nm (δ'.set i none) (R t)) (fun x δ' => Nm (δ'.set i none) (E x))) : Ws (sFrz i F δ) N B C R E := by
  unfold Nm at z
  try dsimp only at z
  rw [ap_frz, e]
  unfold Ws at z
  split at z
  · exact z.elim
  · rename_i e; simp only [e]; exact z
  · rename_i e; simp only [e]; exact z
  · rename_i e; simp only [e]; exact z
  · rename_i e; simp only [e]; exact z
  · rename_i e; simp only [e]; exact z
theorem ws_raise {c fl : Str} (z : We (f δ) (fun t δ' => E ⟨c, fl, t⟩ δ') E) : Ws (sRaise c fl f δ) N B C R E := by
  unfold sRaise
  rcases we_c z with ⟨t0, d0, e0, z⟩ | ⟨t0, d0, e0, z⟩ <;> simp only [e0]
  · exact z
  · exact z
theorem ws_match {M : Mf} (z : We (f δ) (fun t δ' => Is t T.str fun k => Ws (M k δ') N B C R E) E) : Ws (sMatch f M δ) N B C R E := by
  unfold sMatch
  rcases we_c z with ⟨t0, d0, e0, z⟩ | ⟨t0, d0, e0, z⟩ <;> simp only [e0]
  · obtain ⟨k, rfl, z⟩ := z; exact z
  · exact z
theorem ws_mNil {k : Str} (z : N δ) : Ws (mNil k δ) N B C R E := z
theorem ws_mAny {k : Str} (z : Ws (F δ) N B C R E) : Ws (mAny F k δ) N B C R E := z
theorem ws_mCs {k : Str} {ks : List Str} {M : Mf} (z : if decide (k ∈ ks) = true then Ws (F δ) N B C R E else Ws (M k δ) N B C R E) : Ws (mCs ks F M k δ) N B C R E := by
  unfold mCs
  by_cases h : k ∈ ks
  · rw [if_pos h]; rw [decide_eq_true h, if_pos rfl] at z; exact z
  · rw [if_neg h]; rw [decide_eq_false h, if_neg Bool.false_ne_true] at z; exact z
theorem ws_mCg {k : Str} {ks : List Str} {M : Mf} (z : if decide (k ∈ ks) = true then Ws (sIf t F (M k) δ) N B C R E else Ws (M k δ) N B C R E) : Ws (mCg ks t F M k δ) N B C R E := by
  unfold mCg
  by_cases h : k ∈ ks
  · rw [if_pos h]; rw [decide_eq_true h, if_pos rfl] at z; exact z
  · rw [if_neg h]; rw [decide_eq_false h, if_neg Bool.false_ne_true] at z; exact z
theorem ws_tryAs {m : List (Str × Bool)} {fl : Str} {H : Xn → Sf} (z : Ws (F δ) N B C R fun e δ' => So (m.lookup e.cls) fun b => if b = true then Sd (e.fld = fl ∧ i < δ'.length) (Nm (δ'.set i (some e.val)) fun δ2 => Ws (H e δ2) (fun δ2 => Nm (δ2.set i none) N) (fun δ2 => Nm (δ2.set i none) B) (fun δ2 => Nm (δ2.set i none) C) (fun t δ2 => Nm (δ2.set i none) (R t)) fun _ _ => False) else E e δ') : Ws (sTryAs m fl i F H δ) N B C R E := by
  unfold sTryAs
  cases e : F δ with
  | none => rw [e] at z; exact z.elim
  | some p =>
    obtain ⟨fl, δ'⟩ := p
    rw [e] at z
    cases fl with
    | exc er =>
      obtain ⟨b, h1, z⟩ := z
      cases b with
      | true =>
        obtain ⟨h2, z⟩ := z
        simp only [h1, h2, if_true]
        unfold Nm at z
        try dsimp only at z
        cases e2 : H er (δ'.set i (some er.val)) with
        | none => rw [e2] at z; exact z.elim
        | some p =>
          obtain ⟨fl, δ2⟩ := p
          rw [e2] at z
          cases fl <;> first | exact z | exact z.elim
      | false => simp only [h1]; exact z
    | nx => exact z
    | brk => exact z
    | cont => exact z
    | ret _ => exact z
theorem ws_try {m : List (Str × Bool)} {H : Sf} (z : Ws (F δ) N B C R fun e δ' => So (m.lookup e.cls) fun b => if b = true then Ws (H δ') N B C R fun _ _ => False else E e δ') : Ws (sTry m F H δ) N B C R E := by
  unfold sTry
  cases e : F δ with
  | none => rw [e] at z; exact z.elim
  | some p =>
    obtain ⟨fl, δ'⟩ := p
    rw [e] at z
    cases fl with
    | exc er =>
      obtain ⟨b, h1, z⟩ := z
      cases b with
      | true =>
        simp only [h1]
        have z : Ws (H δ') N B C R fun _ _ => False := z
        cases e2 : H δ' with
        | none => rw [e2] at z; exact z.elim
        | some p =>
          obtain ⟨fl, δ2⟩ := p
          rw [e2] at z
          cases fl <;> first | exact z | exact z.elim
      | false => simp only [h1]; exact z
    | nx => exact z
    | brk => exact z
    | cont => exact z
    | ret _ => exact z
/-! loops -/
/-! expressions -/
theorem we_qE (z : Wq (u δ) fun t => Q t δ) : We (qE u δ) Q E := by
  rw [ap_qE]
  obtain ⟨c0, e0, z⟩ := wq_ex z
  simp only [e0]
  exact z
theorem we_opn (z : Wa os δ (fun ts δ' => Wq (op ts) fun c => Q c δ') E) : We (opn op os δ) Q E := by
  rw [ap_opn]
  rcases wa_c z with ⟨l0, d0, ts0, e1, e2, z⟩ | ⟨t0, d0, e1, z⟩ <;> simp only [e1]
  rotate_left
  · exact z
  · simp only [e2]
    obtain ⟨c, e3, z⟩ := wq_ex z
    simp only [e3]; exact z
theorem we_opnc (z : Wa os δ (fun ts δ' => Wq (op ts) fun c => Q c δ') fun _ _ => False) : We (opnc op os δ) Q E := by
  rw [ap_opnc]
  rcases wa_c z with ⟨l0, d0, ts0, e1, e2, z⟩ | ⟨t0, d0, e1, z⟩ <;> simp only [e1]
  rotate_left
  · exact z.elim
  · simp only [e2]
    obtain ⟨c, e3, z⟩ := wq_ex z
    simp only [e3]; exact z
theorem we_disp {ks : List Key} (z : We (opn (dispT ks) os δ) Q E) : We (fDisp ks os δ) Q E := z
theorem we_call {ps : List Sh} {Ff : List T → Fo} (z : Wa os δ (fun ts δ' => Wf (Ff ts) (fun t l => Sd (l.length = ps.length) (Nm (wb ps (skO os) l δ') (Q t))) fun e l => Sd (l.length = ps.length) (Nm (wb ps (skO os) l δ') (E e))) E) : We (fCall ps Ff os δ) Q E := by
  rw [ap_call]
  rcases wa_c z with ⟨l0, d0, ts0, e1, e2, z⟩ | ⟨t0, d0, e1, z⟩
  · simp only [e1, e2]
    rcases wf_or z with ⟨t, l, e3, h, z⟩ | ⟨t, l, e3, h, z⟩
    · simp only [e3, h, if_true]; exact z
    · simp only [e3, h, if_true]; exact z
  · simp only [e1]; exact z
theorem we_app (z : At δ i fun x => Is x T.lst fun us0 => We (f δ) (fun t δ' => At δ' i fun x => Is x T.lst fun us => Sd (us.length < sizeLine) (Nm (δ'.set i (some (.lst (us ++ [t])))) (Q .non))) E) : We (fApp i f δ) Q E := by
  obtain ⟨_, e0, us0, rfl, z⟩ := z
  rw [ap_app, e0]
  rcases we_c z with ⟨t0, d0, e0, z⟩ | ⟨t0, d0, e0, z⟩ <;> simp only [e0]
  · obtain ⟨_, e1, us, rfl, h, z⟩ := z
    simp only [e1, h, if_true]; exact z
  · exact z
theorem we_if (z : Wb (t δ) (fun c δ' => if c = true then We (f δ') Q E else We (g δ') Q E) E) : We (ifE t f g δ) Q E := by
  rw [ap_ifE]
  rcases wb_c z with ⟨t0, d0, e0, z⟩ | ⟨t0, d0, e0, z⟩ <;> simp only [e0]
  · cases t0 <;> exact z
  · exact z
theorem we_andW (z : We (f δ) (fun t δ' => Wt (truW t) fun c => if c = true then We (g δ') Q E else Q t δ') E) : We (andW f g δ) Q E := by
  rw [ap_andW]
  rcases we_c z with ⟨t0, d0, e0, z⟩ | ⟨t0, d0, e0, z⟩ <;> simp only [e0]
  ·
    obtain ⟨c0, e0, z⟩ := wt_ex z
    simp only [e0]
    cases c0 <;> exact z
  · exact z
theorem we_orW (z : We (f δ) (fun t δ' => Wt (truW t) fun c => if c = true then Q t δ' else We (g δ') Q E) E) : We (orW f g δ) Q E := by
  rw [ap_orW]
  rcases we_c z with ⟨t0, d0, e0, z⟩ | ⟨t0, d0, e0, z⟩ <;> simp only [e0]
  ·
    obtain ⟨c0, e0, z⟩ := wt_ex z
    simp only [e0]
    cases c0 <;> exact z
  · exact z
theorem we_lc {vs : List Nat} (z : Wi (its δ) (fun ts δ' => Sd (ts.length < sizeLine) (Nm (wipeD δ' vs) fun δ3 => S2 (lcL gp t f vs ts δ3) fun us δ2 => Q (.lst us) δ2)) E) : We (lcE its gp t f vs δ) Q E := by
  rw [ap_lcE]
  rcases wi_c z with ⟨t0, d0, e0, z⟩ | ⟨t0, d0, e0, z⟩ <;> simp only [e0]
  · obtain ⟨h, us, δ2, e, z⟩ := z
    simp only [h, if_true, e]; exact z
  · exact z
/-! operands -/
theorem wa_nil (z : QL [] δ) : Wa [] δ QL E := z
theorem wa_val (z : We (f δ) (fun t δ1 => Wa os δ1 (fun us δ' => QL (t :: us) δ') E) E) : Wa (.val f :: os) δ QL E := by
  unfold Wa
  rw [rnE]
  rcases we_c z with ⟨t0, d0, e0, z⟩ | ⟨t0, d0, e0, z⟩
  · simp only [e0]
    rcases wa_c z with ⟨l0, d1, ts0, e1, e2, z⟩ | ⟨x0, d1, e1, z⟩
    · simp only [e1, rsE, e2]; exact z
    · simp only [e1]; exact z
  · simp only [e0]; exact z
theorem wa_var (e : dAt δ i = some x) (z : Wa os δ (fun us δ' => At δ' i fun y => QL (y :: us) δ') E) : Wa (.var i :: os) δ QL E := by
  unfold Wa
  rw [rnV, e]
  rcases wa_c z with ⟨l0, d1, ts0, e1, e2, y, e3, z⟩ | ⟨x0, d1, e1, z⟩
  · simp only [e1, rsV, e2, e3]; exact z
  · simp only [e1]; exact z
theorem wl_nil (z : ql []) : Wl (evq [] δ) ql := z
theorem wl_cons (z : Wq (u δ) fun t => Wl (evq fs δ) fun us => ql (t :: us)) : Wl (evq (u :: fs) δ) ql := by
  rw [evS]
  obtain ⟨c0, e0, z⟩ := wq_ex z
  obtain ⟨c1, e1, z⟩ := wl_ex z
  simp only [e0, e1]; exact z
/-! quiet ones -/
theorem wq_opq (z : Wl (evq fs δ) fun ts => Wq (op ts) q) : Wq (opq op fs δ) q := by
  rw [ap_opq]
  obtain ⟨c0, e0, z⟩ := wl_ex z
  simp only [e0]
  exact z
theorem wq_eV (e : dAt δ i = some x) (z : q x) : Wq (eV i δ) q := by rw [ap_eV, e]; exact z
theorem wq_eC (z : q x) : Wq (eC x δ) q := z
theorem wq_eP {π : List Pt} (e : dAt δ i = some x) (e2 : getP x π = some y) (z : q y) : Wq (eP i π δ) q := by unfold eP; rw [e]; simp only [e2]; exact z
theorem wq_if (z : Wt (a δ) fun c => if c = true then Wq (u δ) q else Wq (v δ) q) : Wq (ifQ a u v δ) q := by
  rw [ap_ifQ]
  obtain ⟨c0, e0, z⟩ := wt_ex z
  simp only [e0]
  cases c0 <;> exact z
theorem wq_andV (z : Wq (u δ) fun t => Wt (truW t) fun c => if c = true then Wq (v δ) q else q t) : Wq (andV u v δ) q := by
  rw [ap_andV]
  obtain ⟨c0, e0, z⟩ := wq_ex z
  obtain ⟨c1, e1, z⟩ := wt_ex z
  simp only [e0, e1]
  cases c1 <;> exact z
theorem wq_orV (z : Wq (u δ) fun t => Wt (truW t) fun c => if c = true then q t else Wq (v δ) q) : Wq (orV u v δ) q := by
  rw [ap_orV]
  obtain ⟨c0, e0, z⟩ := wq_ex z
  obtain ⟨c1, e1, z⟩ := wt_ex z
  simp only [e0, e1]
  cases c1 <;> exact z
theorem wq_ch (z : Wq (u δ) fun x => Wq (v δ) fun y => Wq (op [x, y]) fun c => Is c T.bl fun k => if k = true then Wq (w δ) (fun z => Wq (op' [y, z]) q) else q (.bl false)) : Wq (chQ op op' u v w δ) q := by
  rw [ap_chQ]
  obtain ⟨x, e1, z⟩ := wq_ex z
  obtain ⟨y, e2, z⟩ := wq_ex z
  obtain ⟨c, e3, z⟩ := wq_ex z
  obtain ⟨k, rfl, z⟩ := z
  simp only [e1, e2, e3]
  cases k
  · exact z
  · rw [if_pos rfl] at z
    obtain ⟨r, e4, z⟩ := wq_ex z
    simp only [e4]; exact z
/-! tests -/
theorem wt_asB (z : Wq (u δ) fun t => Is t T.bl qb) : Wt (asB u δ) qb := by
  rw [ap_asB]
  obtain ⟨x, e1, c, rfl, z⟩ := wq_ex z
  simp only [e1]; exact z
theorem wt_asTru (z : Wq (u δ) fun t => Wt (truT t) qb) : Wt (asTru u δ) qb := by
  rw [ap_asTru]
  obtain ⟨x, e1, z⟩ := wq_ex z
  simp only [e1]; exact z
theorem wb_asBE (z : We (f δ) (fun t δ' => Is t T.bl fun c => QB c δ') E) : Wb (asBE f δ) QB E := by
  rw [ap_asBE]
  rcases we_c z with ⟨t0, d0, e0, z⟩ | ⟨t0, d0, e0, z⟩ <;> simp only [e0]
  · obtain ⟨c, rfl, z⟩ := z; exact z
  · exact z
theorem wb_asTruE (z : We (f δ) (fun t δ' => Wt (truT t) fun c => QB c δ') E) : Wb (asTruE f δ) QB E := by
  rw [ap_asTruE]
  rcases we_c z with ⟨t0, d0, e0, z⟩ | ⟨t0, d0, e0, z⟩ <;> simp only [e0]
  ·
    obtain ⟨c0, e0, z⟩ := wt_ex z
    simp only [e0]; exact z
  · exact z
theorem wb_qB (z : Wt (a δ) fun c => QB c δ) : Wb (qB a δ) QB E := by
  rw [ap_qB]
  obtain ⟨c0, e0, z⟩ := wt_ex z
  simp only [e0]
  exact z
theorem wb_yes (z : QB true δ) : Wb (yesB δ) QB E := z
theorem wt_not (z : Wt (a δ) fun c => qb (!c)) : Wt (notQ a δ) qb := by
  rw [ap_notQ]
  obtain ⟨c0, e0, z⟩ := wt_ex z
  simp only [e0]
  exact z
theorem wt_and (z : Wt (a δ) fun c => if c = true then Wt (b δ) qb else qb false) : Wt (andQ a b δ) qb := by
  rw [ap_andQ]
  obtain ⟨c0, e0, z⟩ := wt_ex z
  simp only [e0]
  cases c0 <;> exact z
theorem wt_or (z : Wt (a δ) fun c => if c = true then qb true else Wt (b δ) qb) : Wt (orQ a b δ) qb := by
  rw [ap_orQ]
  obtain ⟨c0, e0, z⟩ := wt_ex z
  simp only [e0]
  cases c0 <;> exact z
theorem wb_not (z : Wb (t δ) (fun c δ' => QB (!c) δ') E) : Wb (notE t δ) QB E := by
  rw [ap_notE]
  rcases wb_c z with ⟨t0, d0, e0, z⟩ | ⟨t0, d0, e0, z⟩ <;> simp only [e0]
  · exact z
  · exact z
theorem wb_and (z : Wb (t δ) (fun c δ' => if c = true then Wb (s δ') QB E else QB false δ') E) : Wb (andE t s δ) QB E := by
  rw [ap_andE]
  rcases wb_c z with ⟨t0, d0, e0, z⟩ | ⟨t0, d0, e0, z⟩ <;> simp only [e0]
  · cases t0 <;> exact z
  · exact z
theorem wb_or (z : Wb (t δ) (fun c δ' => if c = true then QB true δ' else Wb (s δ') QB E) E) : Wb (orE t s δ) QB E := by
  rw [ap_orE]
  rcases wb_c z with ⟨t0, d0, e0, z⟩ | ⟨t0, d0, e0, z⟩ <;> simp only [e0]
  · cases t0 <;> exact z
  · exact z
/-! targets, what is walked over -/
theorem wd_gN (z : Nm (δ.set i (some x)) QD) : Wd (gN i x δ) QD := z
theorem wd_gT (e : seqT x = some ts) (z : Wd (gs ts δ) QD) : Wd (gT gs x δ) QD := by rw [ap_gT, e]; exact z
theorem wd_nil (z : QD δ) : Wd (gNl [] δ) QD := z
theorem wd_cons (z : Wd (gp x δ) fun δ' => Wd (gs ts δ') QD) : Wd (gCs gp gs (x :: ts) δ) QD := by
  rw [ap_gCs]
  obtain ⟨c0, e0, z⟩ := wd_ex z
  simp only [e0]; exact z
theorem wi_it (z : We (f δ) (fun t δ' => So (itT t) fun ts => QL ts δ') E) : Wi (itE f δ) QL E := by
  rw [ap_itE]
  rcases we_c z with ⟨t0, d0, e0, z⟩ | ⟨t0, d0, e0, z⟩ <;> simp only [e0]
  · obtain ⟨us, e, z⟩ := z; simp only [e]; exact z
  · exact z
theorem wi_r1 (z : We (f δ) (fun t δ' => Is t T.int fun j => Sd (-4611686018427387904 ≤ j ∧ j < 4611686018427387904) (QL ((List.range j.toNat).map fun i => T.int (i : Nat)) δ')) E) : Wi (itR1 f δ) QL E := by
  rw [ap_itR1]
  rcases we_c z with ⟨t0, d0, e0, z⟩ | ⟨t0, d0, e0, z⟩ <;> simp only [e0]
  · obtain ⟨j, rfl, h, z⟩ := z
    have h' : -(2 ^ 62) ≤ j ∧ j < 2 ^ 62 := h
    simp only [if_pos h', Int.zero_add]; exact z
  · exact z
theorem wi_r2 (z : We (f δ) (fun t δ1 => Is t T.int fun i => We (g δ1) (fun t δ' => Is t T.int fun j => Sd (-4611686018427387904 ≤ i ∧ i < 4611686018427387904 ∧ -4611686018427387904 ≤ j ∧ j < 4611686018427387904) (QL ((List.range (j - i).toNat).map fun n => T.int (i + (n : Nat))) δ')) E) E) : Wi (itR2 f g δ) QL E := by
  rw [ap_itR2]
  rcases we_c z with ⟨t0, d0, e0, z⟩ | ⟨t0, d0, e0, z⟩ <;> simp only [e0]
  · obtain ⟨i, rfl, z⟩ := z
    simp only
    rcases we_c z with ⟨t1, d1, e1, j, rfl, h, z⟩ | ⟨t1, d1, e1, z⟩
    · have h' : -(2 ^ 62) ≤ i ∧ i < 2 ^ 62 ∧ -(2 ^ 62) ≤ j ∧ j < 2 ^ 62 := h
      simp only [e1, if_pos h']; exact z
    · simp only [e1]; exact z
  · exact z
theorem wi_en (z : We (f δ) (fun t δ' => Is t T.lst fun ts => QL (enT ts) δ') E) : Wi (itEn f δ) QL E := by
  rw [ap_itEn]
  rcases we_c z with ⟨t0, d0, e0, z⟩ | ⟨t0, d0, e0, z⟩ <;> simp only [e0]
  · obtain ⟨us, rfl, z⟩ := z; exact z
  · exact z
/-! a def -/
theorem wf_fn {ps : List Sh} {m : Nat} {rs : Sh} {RR : T → List T → Prop} {EE : Xn → List T → Prop} (z : Nm (ts.map some ++ List.replicate m none) fun δ => Ws (F δ) (fun δ => Sd (rs.nilOk = true) (Fn ps ts δ (RR .non))) (fun _ => False) (fun _ => False) (fun t δ => Fn ps ts δ (RR t)) (fun e δ => Fn ps ts δ (EE e))) : Wf (fnT ps m rs F ts) RR EE := by
  unfold Nm at z
  try dsimp only at z
  rw [ap_fn]; unfold Ws at z
  split at z
  · exact z.elim
  · rename_i e
    obtain ⟨h, l, e2, z⟩ := z
    simp only [e, h, if_true, e2]; exact z
  · exact z.elim
  · exact z.elim
  · rename_i e
    obtain ⟨l, e2, z⟩ := z
    simp only [e, e2]; exact z
  · rename_i e
    obtain ⟨l, e2, z⟩ := z
    simp only [e, e2]; exact z
theorem fin_o {s : Sh} {ss : List Sh} {l : List T} {y : T} (e : fin ss ts δ = some l) (h : s.isO = true := by rfl) : fin (s :: ss) (x :: ts) (some y :: δ) = some (y :: l) := by rw [finS, e]; simp only [h, if_true]
theorem fin_f {s : Sh} {ss : List Sh} {d : Option T} {l : List T} (e : fin ss ts δ = some l) (h : s.isO = false := by rfl) : fin (s :: ss) (x :: ts) (d :: δ) = some (x :: l) := by rw [finS, e]; simp only [h, Bool.false_eq_true, if_false]
end
end NQ
namespace NQ
open PySem L2
/-! ### the operations, wished for -/
section
variable {q : T → Prop} {qb : Bool → Prop} {a b : Str} {i j n : Int} {xs ys ts : List T} {x y c : T} {k : Bool} {f : Int → Int → Bool} {op op' : Op}
theorem wo_addi (z : q (.int (i + j))) : Wq (addR [.int i, .int j]) q := z
theorem wo_adds (h : a.length + b.length ≤ 16777216) (z : q (.str (a ++ b))) : Wq (addR [.str a, .str b]) q := by rw [o_adds, if_pos (by rw [sz_eq]; exact h)]; exact z
theorem wo_addAi (z : q (.int (i + j))) : Wq (addA [.int i, .int j]) q := z
theorem wo_addAs (h : a.length + b.length ≤ 16777216) (z : q (.str (a ++ b))) : Wq (addA [.str a, .str b]) q := by rw [o_addAs (by rw [sz_eq]; exact h)]; exact z
theorem wo_addL (h : xs.length + ys.length ≤ 16777216) (z : q (.lst (xs ++ ys))) : Wq (addL [.lst xs, .lst ys]) q := by rw [o_addL, if_pos (by rw [sz_eq]; exact h)]; exact z
theorem wo_addAl (h : xs.length + ys.length ≤ 16777216) (z : q (.lst (xs ++ ys))) : Wq (addA [.lst xs, .lst ys]) q := by rw [o_addAl, if_pos (by rw [sz_eq]; exact h)]; exact z
theorem wo_addI (z : q (.int (i + j))) : Wq (addI [.int i, .int j]) q := z
theorem wo_subI (z : q (.int (i - j))) : Wq (subI [.int i, .int j]) q := z
theorem wo_subi (z : q (.int (i - j))) : Wq (subT [.int i, .int j]) q := z
theorem wo_muliL (h1 : -18446744073709551616 < i) (h2 : i < 18446744073709551616) (z : q (.int (i * j))) : Wq (mulR [.int i, .int j]) q := by rw [o_muli, if_pos (.inl ⟨h1, h2⟩)]; exact z
theorem wo_muliR (h1 : -18446744073709551616 < j) (h2 : j < 18446744073709551616) (z : q (.int (i * j))) : Wq (mulR [.int i, .int j]) q := by rw [o_muli, if_pos (.inr (.inl ⟨h1, h2⟩))]; exact z
theorem wo_mulAL (h1 : -18446744073709551616 < i) (h2 : i < 18446744073709551616) (z : q (.int (i * j))) : Wq (mulA [.int i, .int j]) q := by rw [o_mulAi (.inl ⟨h1, h2⟩)]; exact z
theorem wo_mulAR (h1 : -18446744073709551616 < j) (h2 : j < 18446744073709551616) (z : q (.int (i * j))) : Wq (mulA [.int i, .int j]) q := by rw [o_mulAi (.inr (.inl ⟨h1, h2⟩))]; exact z
theorem wo_muls (h1 : -1048576 < n ∧ n < 1048576 ∧ a.length * n.toNat ≤ 1000000) (z : q (.str (Txt.mul a n))) : Wq (mulR [.str a, .int n]) q := by
  have h1' : -(2 ^ 20) < n ∧ n < 2 ^ 20 ∧ a.length * n.toNat ≤ 1000000 := h1
  rw [o_muls, if_pos h1']; exact z
theorem wo_mulL (h1 : -9223372036854775808 ≤ n ∧ n < 9223372036854775808 ∧ xs.length * n.toNat ≤ 16777216) (z : q (.lst (List.replicate n.toNat xs).flatten)) : Wq (mulL [.lst xs, .int n]) q := by
  have h1' : -(2 ^ 63) ≤ n ∧ n < 2 ^ 63 ∧ xs.length * n.toNat ≤ sizeLine := h1
  rw [o_mulL, if_pos h1']; exact z
theorem wo_mulAl (h1 : -9223372036854775808 ≤ n ∧ n < 9223372036854775808 ∧ xs.length * n.toNat ≤ 16777216) (z : q (.lst (List.replicate n.toNat xs).flatten)) : Wq (mulA [.lst xs, .int n]) q := by
  have h1' : -(2 ^ 63) ≤ n ∧ n < 2 ^ 63 ∧ xs.length * n.toNat ≤ sizeLine := h1
  rw [o_mulAl, if_pos h1']; exact z
theorem wo_modi (h : 0 < j) (z : q (.int (i % j))) : Wq (modT [.int i, .int j]) q := by rw [o_modi, if_pos h]; exact z
theorem wo_divi (h0 : 0 < j) (h1 : j < 1000000000000) (z : q (.int (i / j))) : Wq (divT [.int i, .int j]) q := by rw [o_divs h0 h1]; exact z
theorem wo_powi (h0 : 0 ≤ j) (h1 : j ≤ 1000000) (h2 : -18446744073709551616 < i) (h3 : i < 18446744073709551616) (z : q (.int (i ^ j.toNat))) : Wq (powT [.int i, .int j]) q := by rw [o_pows h0 h1 h2 h3]; exact z
theorem wo_cmp (z : q (.bl (f i j))) : Wq (cmpT f [.int i, .int j]) q := z
theorem wo_neg (z : q (.int (-i))) : Wq (negT [.int i]) q := z
theorem wo_eq (e : eqB x y = some k) (z : q (.bl k)) : Wq (eqT [x, y]) q := by rw [o_eq, e]; exact z
theorem wo_ne (e : eqB x y = some k) (z : q (.bl (!k))) : Wq (neT [x, y]) q := by rw [o_ne, e]; exact z
theorem wo_isN (z : q (.bl x.isN)) : Wq (isNT [x, .non]) q := z
theorem wo_notN (z : q (.bl (!x.isN))) : Wq (notNT [x, .non]) q := z
theorem wo_in (e : memB x y = some k) (z : q (.bl k)) : Wq (inA [x, y]) q := by rw [o_in e]; exact z
theorem wo_nin (e : memB x y = some k) (z : q (.bl (!k))) : Wq (ninA [x, y]) q := by rw [o_nin e]; exact z
theorem wo_len_l (z : q (.int xs.length)) : Wq (lenT [.lst xs]) q := z
theorem wo_len_t (z : q (.int xs.length)) : Wq (lenT [.tup xs]) q := z
theorem wo_len_c (z : q (.int xs.length)) : Wq (lenT [.ctup xs]) q := z
theorem wo_len_s (h : a.length ≤ 16777216) (z : q (.int a.length)) : Wq (lenT [.str a]) q := by rw [o_len_s, if_pos (by rw [sz_eq]; exact h)]; exact z
theorem wo_int_i (z : q (.int i)) : Wq (intT [.int i]) q := z
theorem wo_int_b (z : q (.int (if k then 1 else 0))) : Wq (intT [.bl k]) q := z
theorem wo_str_s (z : q (.str a)) : Wq (strT [.str a]) q := z
theorem wo_abs (z : q (.int (if i < 0 then -i else i))) : Wq (absT [.int i]) q := z
theorem wo_max (z : q (.int (if j > i then j else i))) : Wq (maxT [.int i, .int j]) q := z
theorem wo_min (z : q (.int (if j < i then j else i))) : Wq (minT [.int i, .int j]) q := z
theorem wo_list_l (z : q (.lst xs)) : Wq (listA [.lst xs]) q := z
theorem wo_list_t (z : q (.lst xs)) : Wq (listA [.tup xs]) q := z
theorem wo_list_c (z : q (.lst xs)) : Wq (listA [.ctup xs]) q := z
theorem wo_list_s (h : a.length ≤ 16777216) (z : q (.lst ((NL.sgn a).map T.str))) : Wq (listA [.str a]) q := by rw [o_list_s, if_pos (by rw [sz_eq]; exact h)]; exact z
theorem wo_tuple (z : q (.tup xs)) : Wq (tupleL [.lst xs]) q := z
theorem wo_lst (h : ts.length ≤ 16777216) (z : q (.lst ts)) : Wq (lstT ts) q := by rw [o_lst, if_pos (by rw [sz_eq]; exact h)]; exact z
theorem wo_tup (h : ts.length ≤ 16777216) (z : q (.tup ts)) : Wq (tupT ts) q := by rw [o_tup, if_pos (by rw [sz_eq]; exact h)]; exact z
theorem wo_disp {ks : List Key} (h1 : ks.Nodup) (h2 : ks.length = ts.length) (h3 : ks.length ≤ 15) (z : q (.dic ks ts)) : Wq (dispT ks ts) q := by rw [o_disp, if_pos ⟨h1, h2, h3⟩]; exact z
theorem wo_split (h1 : (b.length == 0) = false) (h2 : a.length ≤ 16777214) (z : q (.lst ((Txt.split a b).map T.str))) : Wq (splitT [.str a, .str b]) q := by rw [o_split, if_pos ⟨h1, by rw [sz_eq]; omega⟩]; exact z
theorem wo_words (h2 : a.length ≤ 16777214) (z : q (.lst ((Txt.words a).map T.str))) : Wq (wordsT [.str a]) q := by rw [o_words, if_pos (by rw [sz_eq]; omega)]; exact z
theorem wo_strip (h2 : a.length ≤ 16777216) (z : q (.str (Txt.strip a))) : Wq (stripT [.str a]) q := by rw [o_strip, if_pos (by rw [sz_eq]; exact h2)]; exact z
theorem wo_join {l : List Str} (e : ts = l.map T.str) (h : (l.map (·.length)).sum + l.length * a.length ≤ 16777216) (z : q (.str (Txt.join a l))) : Wq (joinT [.str a, .lst ts]) q := by subst e; rw [o_join, if_pos h]; exact z
theorem wo_slS1 (h : a.length ≤ 16777216) (z : q (.str (cutS a (some i) none))) : Wq (slS true false [.str a, .int i]) q := by rw [o_slS1, if_pos (by rw [sz_eq]; exact h)]; exact z
theorem wo_slS2 (h : a.length ≤ 16777216) (z : q (.str (cutS a none (some i)))) : Wq (slS false true [.str a, .int i]) q := by rw [o_slS2, if_pos (by rw [sz_eq]; exact h)]; exact z
theorem wo_slS3 (h : a.length ≤ 16777216) (z : q (.str (cutS a (some i) (some j)))) : Wq (slS true true [.str a, .int i, .int j]) q := by rw [o_slS3, if_pos (by rw [sz_eq]; exact h)]; exact z
theorem wo_slL1 (z : q (.lst (cutT xs (some i) none))) : Wq (slL true false [.lst xs, .int i]) q := z
theorem wo_slL2 (z : q (.lst (cutT xs none (some i)))) : Wq (slL false true [.lst xs, .int i]) q := z
theorem wo_slL3 (z : q (.lst (cutT xs (some i) (some j)))) : Wq (slL true true [.lst xs, .int i, .int j]) q := z
theorem wo_ixR_l (e : atI xs i = some x) (h : x.isS = true) (z : q x) : Wq (ixRA [.lst xs, .int i]) q := by rw [o_ixR_l, e]; simp only [h, if_true]; exact z
theorem wo_ixR_t (e : atI xs i = some x) (h : x.isS = true) (z : q x) : Wq (ixRA [.tup xs, .int i]) q := by rw [o_ixR_t, e]; simp only [h, if_true]; exact z
theorem wo_ix_l (e : atI xs i = some x) (z : q x) : Wq (ixA [.lst xs, .int i]) q := by rw [o_ix_l, e]; exact z
theorem wo_ix_t (e : atI xs i = some x) (z : q x) : Wq (ixA [.tup xs, .int i]) q := by rw [o_ix_t, e]; exact z
theorem wo_ix_s {c : Nat} (e : atI a.cps.toList i = some c) (h : a.length ≤ 16777216) (z : q (.str ⟨#[c]⟩)) : Wq (ixA [.str a, .int i]) q := by rw [o_ix_s, if_pos (by rw [sz_eq]; exact h), e]; exact z
theorem wo_ix_d {ks : List Key} {kk : Key} (h : x.key = some kk) (e : lookT ks xs kk = some y) (z : q y) : Wq (ixA [.dic ks xs, x]) q := by rw [o_ix_d h, e]; exact z
theorem wo_isi {m p : String} (h : x.tyn = some m) (h2 : subB m p = some k) (z : q (.bl k)) : Wq (isiT [x, .ty p]) q := by rw [o_isi h h2]; exact z
theorem wt_b (z : qb k) : Wt (truT (.bl k)) qb := z
theorem wt_i (z : qb (i != 0)) : Wt (truT (.int i)) qb := z
theorem wt_l (z : qb (!xs.isEmpty)) : Wt (truT (.lst xs)) qb := z
theorem wt_n (z : qb false) : Wt (truT .non) qb := z
theorem wt_s (h : a.length ≤ 16777216) (z : qb ((a.length : Int) != 0)) : Wt (truT (.str a)) qb := by rw [tru_s, if_pos (by rw [sz_eq]; exact h)]; exact z
theorem wtw_b (z : qb k) : Wt (truW (.bl k)) qb := z
theorem wtw_n (z : qb false) : Wt (truW .non) qb := z
theorem wtw_i (z : qb (i != 0)) : Wt (truW (.int i)) qb := z
theorem wtw_l (z : qb (!xs.isEmpty)) : Wt (truW (.lst xs)) qb := z
/-! equality of scalars -/
theorem eqB_ii : eqB (.int i) (.int j) = some (decide (i = j)) := by
  unfold eqB
  simp only [T.pd]
  by_cases h : i = j <;> simp [PyData.depth, PyData.eqv, h]
theorem eqB_ss : eqB (.str a) (.str b) = some (decide (a = b)) := by
  unfold eqB
  simp only [T.pd]
  by_cases h : a = b <;> simp [PyData.depth, PyData.eqv, h]
theorem ite_t {A B : Prop} {k : Bool} (e : k = true) (z : A) : if k = true then A else B := by rw [if_pos e]; exact z
theorem ite_f {A B : Prop} {k : Bool} (e : k = false) (z : B) : if k = true then A else B := by rw [if_neg (by rw [e]; exact Bool.false_ne_true)]; exact z
end
end NQ
namespace NQ
open PySem L2
/-! ### equality of plain data: no truth values, no written tuples -/
def T.pl : Nat → T → Bool
  | _, .non => true
  | _, .int _ => true
  | _, .str _ => true
  | n + 1, .lst ts => ts.all (T.pl n)
  | n + 1, .tup ts => ts.all (T.pl n)
  | _, _ => false
theorem pd_lst {ts : List T} {ds : List PyData} (h : pdL ts = some ds) : (T.lst ts).pd = some (.list ds) := by
  show (match pdL ts with | some ds => some (PyData.list ds) | none => none) = _
  rw [h]
theorem pd_tup {ts : List T} {ds : List PyData} (h : pdL ts = some ds) : (T.tup ts).pd = some (.tuple ds) := by
  show (match pdL ts with | some ds => some (PyData.tuple ds) | none => none) = _
  rw [h]
theorem pl_pds {n : Nat} (ih : ∀ {x : T}, T.pl n x = true → ∃ d, x.pd = some d ∧ d.depth ≤ n + 1) : ∀ {ts : List T}, ts.all (T.pl n) = true → ∃ ds, pdL ts = some ds ∧ PyData.depthAll ds ≤ n + 1
  | [], _ => ⟨[], rfl, Nat.zero_le _⟩
  | t :: r, h => by
    rw [List.all_cons, Bool.and_eq_true] at h
    obtain ⟨d, h1, h2⟩ := ih h.1
    obtain ⟨ds, h3, h4⟩ := pl_pds ih h.2
    refine ⟨d :: ds, by show (match t.pd, pdL r with | some d, some ds => some (d :: ds) | _, _ => none) = _; rw [h1, h3], ?_⟩
    simp only [PyData.depthAll]
    omega
theorem pl_pd : ∀ {n : Nat} {x : T}, T.pl n x = true → ∃ d, x.pd = some d ∧ d.depth ≤ n + 1
  | n, .non, _ => ⟨.none, rfl, by simp [PyData.depth]⟩
  | n, .int i, _ => ⟨.int i, rfl, by simp [PyData.depth]⟩
  | n, .str s, _ => ⟨.str s, rfl, by simp [PyData.depth]⟩
  | n + 1, .lst ts, e => by
    obtain ⟨ds, h1, h2⟩ := pl_pds (n := n) (fun h => pl_pd h) (ts := ts) e
    exact ⟨.list ds, pd_lst h1, by simp only [PyData.depth]; omega⟩
  | n + 1, .tup ts, e => by
    obtain ⟨ds, h1, h2⟩ := pl_pds (n := n) (fun h => pl_pd h) (ts := ts) e
    exact ⟨.tuple ds, pd_tup h1, by simp only [PyData.depth]; omega⟩
  | 0, .lst _, e => by cases e
  | 0, .tup _, e => by cases e
  | n, .bl _, e => by cases n <;> cases e
  | n, .ctup _, e => by cases n <;> cases e
  | n, .clst _, e => by cases n <;> cases e
  | n, .dic _ _, e => by cases n <;> cases e
  | n, .dit _ _, e => by cases n <;> cases e
  | n, .ins _ _ _, e => by cases n <;> cases e
  | n, .gl _, e => by cases n <;> cases e
  | n, .ty _, e => by cases n <;> cases e
theorem pl_kinds {n : Nat} {x : T} (h : T.pl n x = true) : x = .non ∨ (∃ i, x = .int i) ∨ (∃ s, x = .str s) ∨ (∃ m ts, n = m + 1 ∧ x = .lst ts ∧ ts.all (T.pl m) = true) ∨ ∃ m ts, n = m + 1 ∧ x = .tup ts ∧ ts.all (T.pl m) = true := by
  cases x with
  | non => exact .inl rfl
  | int i => exact .inr (.inl ⟨i, rfl⟩)
  | str s => exact .inr (.inr (.inl ⟨s, rfl⟩))
  | lst ts =>
    cases n with
    | zero => cases h
    | succ m => exact .inr (.inr (.inr (.inl ⟨m, ts, rfl, rfl, h⟩)))
  | tup ts =>
    cases n with
    | zero => cases h
    | succ m => exact .inr (.inr (.inr (.inr ⟨m, ts, rfl, rfl, h⟩)))
  | _ => cases n <;> cases h
theorem pdL_cons {t : T} {r : List T} {ds : List PyData} (h : pdL (t :: r) = some ds) : ∃ d ds', t.pd = some d ∧ pdL r = some ds' ∧ ds = d :: ds' := by
  have h : (match t.pd, pdL r with | some d, some ds => some (d :: ds) | _, _ => none) = some ds := h
  split at h
  · cases h; rename_i h1 h2; exact ⟨_, _, h1, h2, rfl⟩
  · cases h
theorem pds_eqv {n : Nat} (ih : ∀ {x y : T} {d e : PyData}, T.pl n x = true → T.pl n y = true → x.pd = some d → y.pd = some e → (PyData.eqv d e = true ↔ x = y)) : ∀ {ts us : List T} {ds es : List PyData}, ts.all (T.pl n) = true → us.all (T.pl n) = true → pdL ts = some ds → pdL us = some es → (PyData.eqvAll ds es = true ↔ ts = us)
  | [], [], ds, es, _, _, h1, h2 => by cases h1; cases h2; simp [PyData.eqvAll]
  | [], u :: us, ds, es, _, _, h1, h2 => by
    obtain ⟨d, ds', _, _, rfl⟩ := pdL_cons h2
    cases h1
    simp [PyData.eqvAll]
  | t :: ts, [], ds, es, _, _, h1, h2 => by
    obtain ⟨d, ds', _, _, rfl⟩ := pdL_cons h1
    cases h2
    simp [PyData.eqvAll]
  | t :: ts, u :: us, ds, es, p1, p2, h1, h2 => by
    rw [List.all_cons, Bool.and_eq_true] at p1 p2
    obtain ⟨d, ds', a1, a2, rfl⟩ := pdL_cons h1
    obtain ⟨e, es', b1, b2, rfl⟩ := pdL_cons h2
    have q1 := ih p1.1 p2.1 a1 b1
    have q2 := pds_eqv ih p1.2 p2.2 a2 b2
    show (PyData.eqv d e && PyData.eqvAll ds' es') = true ↔ _
    rw [Bool.and_eq_true, q1, q2, List.cons.injEq]
theorem lst_pd {ts : List T} {d : PyData} (h : (T.lst ts).pd = some d) : ∃ ds, pdL ts = some ds ∧ d = .list ds := by
  have h : (match pdL ts with | some ds => some (PyData.list ds) | none => none) = some d := h
  split at h
  · cases h; rename_i h1; exact ⟨_, h1, rfl⟩
  · cases h
theorem tup_pd {ts : List T} {d : PyData} (h : (T.tup ts).pd = some d) : ∃ ds, pdL ts = some ds ∧ d = .tuple ds := by
  have h : (match pdL ts with | some ds => some (PyData.tuple ds) | none => none) = some d := h
  split at h
  · cases h; rename_i h1; exact ⟨_, h1, rfl⟩
  · cases h
theorem pd_eqv : ∀ {n : Nat} {x y : T} {d e : PyData}, T.pl n x = true → T.pl n y = true → x.pd = some d → y.pd = some e → (PyData.eqv d e = true ↔ x = y) := by
  intro n
  induction n with
  | zero =>
    intro x y d e p1 p2 h1 h2
    rcases pl_kinds p1 with rfl | ⟨i, rfl⟩ | ⟨s, rfl⟩ | ⟨_, _, z, _⟩ | ⟨_, _, z, _⟩ <;> try omega
    all_goals rcases pl_kinds p2 with rfl | ⟨j, rfl⟩ | ⟨u, rfl⟩ | ⟨_, _, z, _⟩ | ⟨_, _, z, _⟩ <;> first | omega | (cases h1; cases h2; simp [PyData.eqv])
  | succ n ih =>
    intro x y d e p1 p2 h1 h2
    rcases pl_kinds p1 with rfl | ⟨i, rfl⟩ | ⟨s, rfl⟩ | ⟨m, ts, z, rfl, q1⟩ | ⟨m, ts, z, rfl, q1⟩ <;> rcases pl_kinds p2 with rfl | ⟨j, rfl⟩ | ⟨u, rfl⟩ | ⟨m2, us, z2, rfl, q2⟩ | ⟨m2, us, z2, rfl, q2⟩
    all_goals first
      | (obtain rfl : n = m := by omega
         obtain rfl : n = m2 := by omega
         first
           | (obtain ⟨ds, a1, rfl⟩ := lst_pd h1
              obtain ⟨es, b1, rfl⟩ := lst_pd h2
              have := pds_eqv ih q1 q2 a1 b1
              simp only [PyData.eqv, this, T.lst.injEq])
           | (obtain ⟨ds, a1, rfl⟩ := tup_pd h1
              obtain ⟨es, b1, rfl⟩ := tup_pd h2
              have := pds_eqv ih q1 q2 a1 b1
              simp only [PyData.eqv, this, T.tup.injEq])
           | (obtain ⟨ds, a1, rfl⟩ := lst_pd h1
              obtain ⟨es, b1, rfl⟩ := tup_pd h2
              simp [PyData.eqv])
           | (obtain ⟨ds, a1, rfl⟩ := tup_pd h1
              obtain ⟨es, b1, rfl⟩ := lst_pd h2
              simp [PyData.eqv]))
      | (obtain ⟨ds, a1, rfl⟩ := lst_pd h1; cases h2; simp [PyData.eqv])
      | (obtain ⟨ds, a1, rfl⟩ := tup_pd h1; cases h2; simp [PyData.eqv])
      | (obtain ⟨ds, a1, rfl⟩ := lst_pd h2; cases h1; simp [PyData.eqv])
      | (obtain ⟨ds, a1, rfl⟩ := tup_pd h2; cases h1; simp [PyData.eqv])
      | (cases h1; cases h2; simp [PyData.eqv])
open Classical in
/-- == of plain data is equality -/
theorem eqB_pl (n : Nat) {x y : T} (p1 : T.pl n x = true) (p2 : T.pl n y = true) (hn : n ≤ 59 := by decide) : eqB x y = some (decide (x = y)) := by
  obtain ⟨d, a1, a2⟩ := pl_pd p1
  obtain ⟨e, b1, b2⟩ := pl_pd p2
  unfold eqB
  rw [a1, b1]
  have q := pd_eqv p1 p2 a1 b1
  simp only [show d.depth ≤ 60 by omega, show e.depth ≤ 60 by omega, and_self, if_true]
  congr 1
  by_cases z : x = y
  · rw [q.mpr z]; simp [z]
  · have : PyData.eqv d e = false := by
      cases h : PyData.eqv d e with
      | false => rfl
      | true => exact absurd (q.mp h) z
    rw [this]; simp [z]
/-! membership in texts, lists of texts -/
theorem memB_ch {s z : Str} {c : Nat} (h : s.cps.toList = [c]) : memB (.str s) (.str z) = some (decide (c ∈ z.cps.toList)) := by
  unfold memB
  simp only [h]
theorem memB_l {x : T} {l : List T} (h1 : x.isS = true) (h2 : l.all T.isS = true) : memB x (.lst l) = some (inS x l) := by
  unfold memB
  simp only [h1, h2, and_self, if_true]
theorem memB_t {x : T} {l : List T} (h1 : x.isS = true) (h2 : l.all T.isS = true) : memB x (.tup l) = some (inS x l) := by
  unfold memB
  simp only [h1, h2, and_self, if_true]
theorem memB_c {x : T} {l : List T} (h1 : x.isS = true) : memB x (.ctup l) = some (inS x l) := by
  unfold memB
  simp only [h1, if_true]
end NQ
namespace NQ
open PySem L2
/-! ### objects: fields read, fields stored -/
/-- e.f of a thing whose parts are frozen -/
def fldT (c f : Str) : Op
  | [.ins c' fs ts] => if c' = c then fldAt fs ts f else none
  | _ => none
section
variable {X : Cx} {K : PySem.W.Frag} {sh : Nat → Sh} {Wx : WX} {c f : Str} {e o : Expr} {pos pos' : Pos}
end
/-- a field is set, or comes behind -/
def fldPut (fs : List Str) (ts : List T) (f : Str) (u : T) : List Str × List T := match fldSet fs ts f u with
  | some ts' => (fs, ts')
  | none => (fs ++ [f], ts ++ [u])
/-- one part of several is put anew -/
theorem OwL.put {K : PySem.W.Frag} {G : Addr → Prop} {H : Hp} {N : List Addr} {y : V} {u : T} : ∀ {ss : List Sh} {F : List Addr} {vs : List V} {ts : List T} {j : Nat} {s : Sh}, OwL K G H ss F vs ts → ss[j]? = some s → Ow K G H s N y u → ∃ F', OwL K G H ss F' (vs.set j y) (ts.set j u) ∧ (∀ a ∈ F', a ∈ F ∨ a ∈ N) ∧ (F.Nodup → N.Nodup → (∀ a ∈ F, a ∉ N) → F'.Nodup)
  | _, _, _, _, j, s, .nil, e, _ => by simp at e
  | _, _, _, _, 0, s, .cons (F := F) (F' := F') h r, e, o => by
    simp at e
    subst e
    refine ⟨N ++ F', .cons o r, fun a z => (List.mem_append.mp z).elim .inr fun z => .inl (List.mem_append_right _ z), fun nd nn dj => ?_⟩
    have nx := List.nodup_append.mp nd
    exact List.nodup_append.mpr ⟨nn, nx.2.1, fun a h1 b h2 z => dj b (List.mem_append_right _ h2) (by rw [← z]; exact h1)⟩
  | _, _, _, _, j + 1, s, .cons (F := F) (F' := F') h r, e, o => by
    obtain ⟨F2, h1, h2, h3⟩ := OwL.put r (j := j) (by simpa using e) o
    refine ⟨F ++ F2, .cons h h1, fun a z => (List.mem_append.mp z).elim (fun z => .inl (List.mem_append_left _ z)) fun z => (h2 a z).imp (fun w => List.mem_append_right _ w) id, fun nd nn dj => ?_⟩
    have nx := List.nodup_append.mp nd
    refine List.nodup_append.mpr ⟨nx.1, h3 nx.2.1 nn fun a z => dj a (List.mem_append_right _ z), fun a k1 b k2 z => ?_⟩
    subst z
    rcases h2 a k2 with w | w
    · exact nx.2.2 a k1 a w rfl
    · exact dj a (List.mem_append_left _ k1) w
theorem Ow.ins {K : PySem.W.Frag} {G : Addr → Prop} {H : Hp} {d : List (Str × Sh)} {F : List Addr} {v : V} {c : Str} {fs : List Str} {ts : List T} (h : Ow K G H (.flds d) F v (.ins c fs ts)) : ∃ a F' vs dx, v = .ref a ∧ F = a :: F' ∧ fs.length = vs.length ∧ H a = some (.ins (He.ga K c) dx (fs.zip vs)) ∧ OwL K G H (fs.map fun f => (d.lookup f).getD .fz) F' vs ts := by
  cases h with
  | nd ce k r => cases k; obtain ⟨hl, dx, ch⟩ := ce; exact ⟨_, _, _, dx, rfl, rfl, hl, ch, r⟩
end NQ
namespace NQ
open PySem L2
/-! ### o.f = e, o a place in what is one's own -/
def putFld (i : Nat) (π : List Pt) (c f : Str) (u : T) (δ : Dl) : Option Dl := match dAt δ i with
  | some t => match getP t π with
    | some (.ins c' fs ts) => if c' = c ∧ fs.length < 1000 then (match setP t π (.ins c (fldPut fs ts f u).1 (fldPut fs ts f u).2) with
      | some t2 => some (δ.set i (some t2))
      | none => none) else none
    | _ => none
  | none => none
def sFld (i : Nat) (π : List Pt) (c f : Str) (g : Dl → Rs) : Sf := fun δ => match g δ with
  | none => none
  | some (.error e, δ') => some (.exc e, δ')
  | some (.ok u, δ') => match putFld i π c f u δ' with
    | some δ2 => some (.nx, δ2)
    | none => none
section
variable {X : Cx} {K : PySem.W.Frag} {c : Cf} {Wx : WX} {o e : Expr} {i : Nat} {π : List Pt} {g : Dl → Rs} {cl f : Str} {d : List (Str × Sh)} {pos pos' : Pos}
/-! ### o.f op= e, e quiet -/
def sAugF (i : Nat) (π : List Pt) (cl f : Str) (op : Op) (g : Qf) : Sf := fun δ => match eP i (π ++ [.fld cl f]) δ, g δ with
  | some a, some b => match op [a, b] with
    | some u => match putFld i π cl f u δ with
      | some δ2 => some (.nx, δ2)
      | none => none
    | none => none
  | _, _ => none
end
end NQ
namespace NQ
open PySem L2
/-! ### a place is written: append, d[k] = e, x[k] = e -/
def putPl (i : Nat) (π : List Pt) (w : T) (δ : Dl) : Option Dl := match dAt δ i with
  | some t => match setP t π w with
    | some t2 => some (δ.set i (some t2))
    | none => none
  | none => none
def fAppP (i : Nat) (π : List Pt) (q : Qf) : Dl → Rs := fun δ => match eP i π δ, q δ with
  | some (.lst ts), some u => if ts.length < sizeLine then (match putPl i π (.lst (ts ++ [u])) δ with
    | some δ2 => some (.ok .non, δ2)
    | none => none) else none
  | _, _ => none
section
variable {X : Cx} {K : PySem.W.Frag} {sh : Nat → Sh} {Wx : WX} {o e : Expr} {i : Nat} {π : List Pt} {q : Qf} {apos cpos : Pos}
end
/-! dicts -/
def dputL {κ : Type} [DecidableEq κ] (ks : List κ) (ts : List T) (k : κ) (u : T) : List κ × List T :=
  if (ks.any fun a => decide (a = k)) = true then (ks, List.zipWith (fun a t => if a = k then u else t) ks ts) else (ks ++ [k], ts ++ [u])
def dputT (d k u : T) : Option T := match d with
  | .dic ks ts => if ks.length = ts.length ∧ ks.length < sizeLine then (match k.key with
    | some k => some (.dic (dputL ks ts k u).1 (dputL ks ts k u).2)
    | none => none) else none
  | .dit ks ts => if ks.length = ts.length ∧ ks.length < sizeLine then (match k with
    | .tup us => match keysT us with
      | some k => some (.dit (dputL ks ts k u).1 (dputL ks ts k u).2)
      | none => none
    | _ => none) else none
  | _ => none
end NQ
namespace NQ
open PySem L2
theorem Ow.dic {K : PySem.W.Frag} {G : Addr → Prop} {H : Hp} {F : List Addr} {v : V} {ks : List Key} {ts : List T} (h : Ow K G H (.all .fz) F v (.dic ks ts)) : ∃ a vs, v = .ref a ∧ F = [a] ∧ ks.length = vs.length ∧ H a = some (.dK (ks.zip vs)) ∧ DfL K G H vs ts := by
  cases h with
  | nd c k r =>
    cases k
    obtain ⟨d, rfl⟩ := OwL.df (ts := ts) r
    exact ⟨_, _, rfl, rfl, c.1, c.2, d⟩
theorem Ow.dit {K : PySem.W.Frag} {G : Addr → Prop} {H : Hp} {F : List Addr} {v : V} {ks : List (List Key)} {ts : List T} (h : Ow K G H (.all .fz) F v (.dit ks ts)) : ∃ a vs, v = .ref a ∧ F = [a] ∧ ks.length = vs.length ∧ H a = some (.dT (ks.zip vs)) ∧ DfL K G H vs ts := by
  cases h with
  | nd c k r =>
    cases k
    obtain ⟨d, rfl⟩ := OwL.df (ts := ts) r
    exact ⟨_, _, rfl, rfl, c.1, c.2, d⟩
def sPutD (i : Nat) (π : List Pt) (qk : Qf) (g : Dl → Rs) : Sf := fun δ => match g δ with
  | none => none
  | some (.error e, δ') => some (.exc e, δ')
  | some (.ok u, δ') => match eP i π δ', qk δ' with
    | some d, some k => match dputT d k u with
      | some d2 => match putPl i π d2 δ' with
        | some δ2 => some (.nx, δ2)
        | none => none
      | none => none
    | _, _ => none
section
variable {X : Cx} {K : PySem.W.Frag} {c : Cf} {Wx : WX} {o e k : Expr} {i : Nat} {π : List Pt} {g : Dl → Rs} {q : Qf} {pos pos' : Pos}
/-! x[k] = e, x a list at a place -/
def sSetP (i : Nat) (π : List Pt) (qk : Qf) (g : Dl → Rs) : Sf := fun δ => match g δ with
  | none => none
  | some (.error e, δ') => some (.exc e, δ')
  | some (.ok u, δ') => match eP i π δ', qk δ' with
    | some (.lst ts), some (.int n) => match setAt ts n u with
      | some ts' => match putPl i π (.lst ts') δ' with
        | some δ2 => some (.nx, δ2)
        | none => none
      | none => none
    | _, _ => none
end
end NQ
namespace NQ
open PySem L2
/-! ### methods -/
/-- x.m(..), x one's own object -/
def fMeth (cl m : Str) (ps : List Sh) (F : List T → Fo) (i : Nat) (os : List Opd) : Dl → Rs := fun δ => match dAt δ i with
  | some (.ins c fs _) => if c = cl ∧ m ∉ fs then fCall ps F (.var i :: os) δ else none
  | _ => none
/-- x.m(..), x a frozen object -/
def fMethF (cl m : Str) (ps : List Sh) (F : List T → Fo) (q : Qf) (os : List Opd) : Dl → Rs := fun δ => match q δ with
  | some (.ins c fs _) => if c = cl ∧ m ∉ fs then fCall ps F (.val (qE q) :: os) δ else none
  | _ => none
section
variable {X : Cx} {K : PySem.W.Frag} {sh : Nat → Sh} {Wx : WX} {ps : List Sh} {rs : Sh} {F : List T → Fo} {os : List Opd} {k i : Nat} {cl m : Str} {o e : Expr} {es : List Expr} {params : List Str} {p pos apos : Pos} {q : Qf} {d : List (Str × Sh)}
end
end NQ
namespace NQ
open PySem L2
/-! ### an object made -/
def fMake (cl : Str) (F : List T → Fo) (os : List Opd) : Dl → Rs := fun δ => match runs os δ with
  | none => none
  | some (.error e, δ') => some (.error e, δ')
  | some (.ok l, δ') => match res l δ' with
    | none => none
    | some ts => match F (.ins cl [] [] :: ts) with
      | some (.ret .non, o :: _) => some (.ok o, δ')
      | some (.exc e, _) => some (.error e, δ')
      | _ => none
section
variable {K : PySem.W.Frag} {sh : Nat → Sh} {W : Addr → Prop} {Y N : List Addr} {Fm : Nat → List Addr} {H H' : Hp} {σ : L2.St} {δ : Dl}
/-- new places are held -/
theorem Fr.holds (f : Fr K sh W Y Fm H σ δ) (hN : N.Nodup) (hf : ∀ a ∈ N, H a = none) (e : EdP noA H H') (hl : ∀ a ∈ N, NT H' a) : Fr K sh W (N ++ Y) Fm H' σ δ := by
  have np : ∀ a, Gw Y Fm W a → a ∉ N := fun a z w => f.al a z (hf a w)
  have hg : ∀ a, Gm (N ++ Y) Fm a → Gm Y Fm a ∨ H a = none := fun a h => h.elim (fun q => (List.mem_append.mp q).elim (fun z => .inr (hf a z)) fun z => .inl (.inl z)) fun q => .inl (.inr q)
  have f2 := f.ed0 e
  refine ⟨fun i t h => by obtain ⟨v, h1, h2⟩ := f.rel i t h; exact ⟨v, h1, h2.step e (fun _ z => z.elim) (fun a z => z.elim (fun q => (hg a q).imp .inl id) fun q => .inl (.inr q)) hg fun _ _ z => z.elim⟩, f2.un, f2.nd, f2.dj, f2.dw, f2.wl, f2.len, ?_, fun i a q => ?_, fun a q => ?_, fun a q => ?_⟩
  · exact List.nodup_append.mpr ⟨hN, f.xn, fun a h1 b h2 z => np b (.inl (.inl h2)) (by rw [← z]; exact h1)⟩
  · rcases List.mem_append.mp q with q | q
    · exact fun z => np a (.inl (.inr ⟨i, z⟩)) q
    · exact f.xd i a q
  · rcases List.mem_append.mp q with q | q
    · exact fun z => np a (.inr z) q
    · exact f.xw a q
  · rcases List.mem_append.mp q with q | q
    · exact hl a q
    · exact f2.xl a q
end
section
variable {X : Cx} {K : PySem.W.Frag} {sh : Nat → Sh} {Wx : WX} {ps : List Sh} {F : List T → Fo} {os : List Opd} {k : Nat} {cl : Str} {e : Expr} {es : List Expr} {params : List Str} {p pos : Pos} {d : List (Str × Sh)}
end
end NQ
namespace NQ
open PySem L2
/-! ### walking: objects -/
section
variable {F G : Sf} {f g : Dl → Rs} {u v : Qf} {δ δ2 : Dl} {i : Nat} {op : Op} {os : List Opd} {x y t : T} {ts : List T} {fs : List Str} {π : List Pt} {cl fl m : Str}
variable {N B C : Dl → Prop} {R : T → Dl → Prop} {E : Xn → Dl → Prop} {Q : T → Dl → Prop} {q : T → Prop}
theorem wo_fld (e : fldAt fs ts fl = some y) (z : q y) : Wq (fldT cl fl [.ins cl fs ts]) q := by
  unfold fldT
  simp only [if_true, e]
  exact z
/-- what a place holds when its field is stored; P: the tree then -/
def Fp (t : T) (π : List Pt) (c f : Str) (u : T) (P : T → Prop) : Prop := ∃ fs ts t2, getP t π = some (.ins c fs ts) ∧ fs.length < 1000 ∧ setP t π (.ins c (fldPut fs ts f u).1 (fldPut fs ts f u).2) = some t2 ∧ P t2
theorem fp_put {c f : Str} {w : T} {Z : Dl → Prop} (e : dAt δ i = some t) (z : Fp t π c f w fun t2 => Z (δ.set i (some t2))) : ∃ δ2, putFld i π c f w δ = some δ2 ∧ Z δ2 := by
  obtain ⟨fs, ts, t2, h1, h2, h3, h4⟩ := z
  refine ⟨_, ?_, h4⟩
  unfold putFld
  rw [e]
  simp only [h1, h2, and_self, if_true, h3]
theorem fp_here {c f : Str} {w : T} {P : T → Prop} {fs' : List Str} {ts' : List T} (hl : fs.length < 1000) (e : fldPut fs ts f w = (fs', ts')) (z : P (.ins c fs' ts')) : Fp (.ins c fs ts) [] c f w P := ⟨fs, ts, .ins c fs' ts', rfl, hl, by rw [e]; rfl, z⟩
theorem ws_fld (z : We (g δ) (fun w δ' => At δ' i fun t => Fp t π cl fl w fun t2 => Nm (δ'.set i (some t2)) N) E) : Ws (sFld i π cl fl g δ) N B C R E := by
  unfold sFld
  rcases we_c z with ⟨w, d0, e0, t, e1, z⟩ | ⟨t0, d0, e0, z⟩ <;> simp only [e0]
  · obtain ⟨δ2, e2, z⟩ := fp_put e1 z
    simp only [e2]
    exact z
  · exact z
theorem ws_afld (z : Wq (eP i (π ++ [.fld cl fl]) δ) fun a => Wq (u δ) fun b => Wq (op [a, b]) fun w => At δ i fun t => Fp t π cl fl w fun t2 => Nm (δ.set i (some t2)) N) : Ws (sAugF i π cl fl op u δ) N B C R E := by
  unfold sAugF
  obtain ⟨a, e1, z⟩ := wq_ex z
  obtain ⟨b, e2, z⟩ := wq_ex z
  obtain ⟨w, e3, t, e4, z⟩ := wq_ex z
  obtain ⟨δ2, e5, z⟩ := fp_put e4 z
  simp only [e1, e2, e3, e5]
  exact z
theorem put_go {w : T} {Z : Dl → Prop} (e : dAt δ i = some t) (z : So (setP t π w) fun t2 => Z (δ.set i (some t2))) : ∃ δ2, putPl i π w δ = some δ2 ∧ Z δ2 := by
  obtain ⟨t2, h1, h2⟩ := z
  refine ⟨_, ?_, h2⟩
  unfold putPl
  rw [e]
  simp only [h1]
theorem we_appP (z : Wq (eP i π δ) fun x => Is x T.lst fun us => Wq (u δ) fun w => Sd (us.length < sizeLine) (At δ i fun t => So (setP t π (.lst (us ++ [w]))) fun t2 => Nm (δ.set i (some t2)) (Q .non))) : We (fAppP i π u δ) Q E := by
  unfold fAppP
  obtain ⟨_, e1, us, rfl, z⟩ := wq_ex z
  obtain ⟨w, e2, hl, t, e3, z⟩ := wq_ex z
  obtain ⟨δ2, e4, z⟩ := put_go e3 z
  simp only [e1, e2, hl, if_true, e4]
  exact z
theorem ws_putD (z : We (g δ) (fun w δ' => Wq (eP i π δ') fun d => Wq (u δ') fun k => So (dputT d k w) fun d2 => At δ' i fun t => So (setP t π d2) fun t2 => Nm (δ'.set i (some t2)) N) E) : Ws (sPutD i π u g δ) N B C R E := by
  unfold sPutD
  rcases we_c z with ⟨w, d0, e0, z⟩ | ⟨t0, d0, e0, z⟩ <;> simp only [e0]
  · obtain ⟨d, e1, z⟩ := wq_ex z
    obtain ⟨k, e2, d2, e3, t, e4, z⟩ := wq_ex z
    obtain ⟨δ2, e5, z⟩ := put_go e4 z
    simp only [e1, e2, e3, e5]
    exact z
  · exact z
theorem ws_setP (z : We (g δ) (fun w δ' => Wq (eP i π δ') fun x => Is x T.lst fun us => Wq (u δ') fun k => Is k T.int fun n => So (setAt us n w) fun us' => At δ' i fun t => So (setP t π (.lst us')) fun t2 => Nm (δ'.set i (some t2)) N) E) : Ws (sSetP i π u g δ) N B C R E := by
  unfold sSetP
  rcases we_c z with ⟨w, d0, e0, z⟩ | ⟨t0, d0, e0, z⟩ <;> simp only [e0]
  · obtain ⟨_, e1, us, rfl, z⟩ := wq_ex z
    obtain ⟨_, e2, n, rfl, us', e3, t, e4, z⟩ := wq_ex z
    obtain ⟨δ2, e5, z⟩ := put_go e4 z
    simp only [e1, e2, e3, e5]
    exact z
  · exact z
theorem we_meth {ps : List Sh} {Ff : List T → Fo} (e : dAt δ i = some (.ins cl fs ts)) (hm : m ∉ fs) (z : We (fCall ps Ff (.var i :: os) δ) Q E) : We (fMeth cl m ps Ff i os δ) Q E := by
  unfold fMeth
  rw [e]
  simp only [hm, not_false_eq_true, and_self, if_true]
  exact z
theorem we_methF {ps : List Sh} {Ff : List T → Fo} (z : Wq (u δ) fun t => ∃ fs ts, t = .ins cl fs ts ∧ m ∉ fs ∧ We (fCall ps Ff (.val (qE u) :: os) δ) Q E) : We (fMethF cl m ps Ff u os δ) Q E := by
  unfold fMethF
  obtain ⟨t, e1, fs, ts, rfl, hm, z⟩ := wq_ex z
  rw [e1]
  simp only [hm, not_false_eq_true, and_self, if_true]
  exact z
theorem we_make {Ff : List T → Fo} (z : Wa os δ (fun us δ' => Wf (Ff (.ins cl [] [] :: us)) (fun t l => t = .non ∧ ∃ o r, l = o :: r ∧ Q o δ') fun e _ => E e δ') E) : We (fMake cl Ff os δ) Q E := by
  unfold fMake
  rcases wa_c z with ⟨l0, d0, ts0, e1, e2, z⟩ | ⟨t0, d0, e1, z⟩
  · simp only [e1, e2]
    rcases wf_or z with ⟨t, l, e3, rfl, o, r, rfl, z⟩ | ⟨t, l, e3, z⟩
    · simp only [e3]; exact z
    · simp only [e3]; exact z
  · simp only [e1]; exact z
end
end NQ
namespace NQ
open PySem L2
/-! ### {}; what += does -/
def fNewK : Dl → Rs := fun δ => some (.ok (.dic [] []), δ)
def fNewT : Dl → Rs := fun δ => some (.ok (.dit [] []), δ)
section
variable {X : Cx} {K : PySem.W.Frag} {sh : Nat → Sh} {Wx : WX} {pos : Pos}
end
section
variable {δ : Dl} {Q : T → Dl → Prop} {E : Xn → Dl → Prop}
theorem we_newK (z : Q (.dic [] []) δ) : We (fNewK δ) Q E := z
theorem we_newT (z : Q (.dit [] []) δ) : We (fNewT δ) Q E := z
end
/-! ### a comprehension whose items are new things of one's own -/
end NQ
namespace NQ
open PySem L2
/-! ### [] of any shape -/
section
variable {X : Cx} {K : PySem.W.Frag} {sh : Nat → Sh} {Wx : WX} {pos : Pos}
end
end NQ
namespace L2
open PySem PySem.Spec PyProof.Rows
section
variable {X : Cx}
end
end L2
namespace NQ
open PySem L2
/-! ### dict(d) -/
section
variable {X : Cx} {K : PySem.W.Frag} {a : Expr} {pos p : Pos}
end
end NQ
namespace NQ
open PySem L2
/-! ### a class called by a local name (cls in a classmethod) -/
section
variable {K : PySem.W.Frag} {sh : Nat → Sh} {W : Addr → Prop} {Y N : List Addr} {Fm : Nat → List Addr} {H H' : Hp} {σ : L2.St} {δ : Dl}
variable {X : Cx} {K : PySem.W.Frag} {sh : Nat → Sh} {Wx : WX} {ps : List Sh} {F : List T → Fo} {os : List Opd} {k : Nat} {cl : Str} {e : Expr} {es : List Expr} {params : List Str} {p pos : Pos} {d : List (Str × Sh)}
end
end NQ
namespace NQ
open PySem L2
/-! ### classmethods -/
def fCM (cl : Str) (ps : List Sh) (F : List T → Fo) (q : Qf) (os : List Opd) : Dl → Rs := fun δ => match q δ with
  | some (.gl x) => if x = cl then fCall ps F (.val (qE q) :: os) δ else none
  | _ => none
section
variable {X : Cx} {K : PySem.W.Frag} {sh : Nat → Sh} {Wx : WX} {ps : List Sh} {rs : Sh} {F : List T → Fo} {os : List Opd} {k i : Nat} {cl m : Str} {o e : Expr} {es : List Expr} {params : List Str} {p pos apos : Pos} {q : Qf} {d : List (Str × Sh)}
end
section
variable {X : Cx} {K : PySem.W.Frag} {sh : Nat → Sh} {Wx : WX} {ps : List Sh} {F : List T → Fo} {os : List Opd} {k : Nat} {cl m : Str} {o e : Expr} {es : List Expr} {params : List Str} {apos pos : Pos} {q : Qf}
end
end NQ
namespace NQ
open PySem L2
/-! ### a part of what is one's own gets a name of its own for a while -/
section
variable {K : PySem.W.Frag} {G : Addr → Prop} {H : Hp}
end
/-! ### the part is taken out, and put back -/
section
variable {K : PySem.W.Frag} {sh : Nat → Sh} {W : Addr → Prop} {X X' Y : List Addr} {Fm : Nat → List Addr} {H : Hp} {σ : L2.St} {δ : Dl} {i : Nat} {π : List Pt} {t t' : T} {s' : Sh}
/-- the footprints without that of the slot i -/
def Fx (Fm : Nat → List Addr) (i : Nat) : Nat → List Addr := fun j => if j = i then [] else Fm j
end
/-! ### places told by the state -/
abbrev Pf := Dl → Option (List Pt)
def pNil : Pf := fun _ => some []
def pFld (πf : Pf) (c f : Str) : Pf := fun δ => match πf δ with
  | some π => some (π ++ [.fld c f])
  | none => none
def pIx (πf : Pf) (q : Qf) : Pf := fun δ => match πf δ, q δ with
  | some π, some (.int n) => some (π ++ [.ix n])
  | _, _ => none
def ShF (s0 : Sh) (πf : Pf) (s : Sh) : Prop := ∀ δ π, πf δ = some π → shP s0 π = some s
theorem shP_app : ∀ {π ρ : List Pt} {s u : Sh}, shP s π = some u → shP s (π ++ ρ) = shP u ρ
  | [], ρ, s, u, h => by
    have : s = u := by cases s <;> exact Option.some.inj h
    rw [this]; rfl
  | .fld c f :: π, ρ, .flds d, u, h => by
    show shP ((d.lookup f).getD .fz) (π ++ ρ) = _
    exact shP_app (π := π) h
  | .ix n :: π, ρ, .all s, u, h => by
    show shP s (π ++ ρ) = _
    exact shP_app (π := π) h
  | .fld c f :: π, ρ, .fz, _, h => by cases h
  | .fld c f :: π, ρ, .vw, _, h => by cases h
  | .fld c f :: π, ρ, .xc _ _ _ _, _, h => by cases h
  | .fld c f :: π, ρ, .all _, _, h => by cases h
  | .fld c f :: π, ρ, .row _, _, h => by cases h
  | .fld c f :: π, ρ, .opt _, _, h => by cases h
  | .ix n :: π, ρ, .fz, _, h => by cases h
  | .ix n :: π, ρ, .vw, _, h => by cases h
  | .ix n :: π, ρ, .xc _ _ _ _, _, h => by cases h
  | .ix n :: π, ρ, .flds _, _, h => by cases h
  | .ix n :: π, ρ, .row _, _, h => by cases h
  | .ix n :: π, ρ, .opt _, _, h => by cases h
theorem ShF.nil {s : Sh} : ShF s pNil s := fun δ π h => by cases h; cases s <;> rfl
theorem ShF.fld {s0 : Sh} {πf : Pf} {d : List (Str × Sh)} {c f : Str} (h : ShF s0 πf (.flds d)) : ShF s0 (pFld πf c f) ((d.lookup f).getD .fz) := fun δ π e => by
  unfold pFld at e
  split at e
  · rename_i p q
    cases e
    rw [shP_app (h δ p q)]
    show shP ((d.lookup f).getD .fz) [] = _
    cases (d.lookup f).getD .fz <;> rfl
  · cases e
theorem ShF.ix {s0 s : Sh} {πf : Pf} {q : Qf} (h : ShF s0 πf (.all s)) : ShF s0 (pIx πf q) s := fun δ π e => by
  unfold pIx at e
  split at e
  · rename_i p n q1 q2
    cases e
    rw [shP_app (h δ p q1)]
    show shP s [] = _
    cases s <;> rfl
  · cases e
def ePq (i : Nat) (πf : Pf) : Qf := fun δ => match πf δ, dAt δ i with
  | some π, some t => getP t π
  | _, _ => none
section
variable {X : Cx} {K : PySem.W.Frag} {sh : Nat → Sh} {e o k : Expr} {i : Nat} {πf : Pf} {pos : Pos} {s s' : Sh} {q : Qf}
end
/-! ### blocks in parts -/
end NQ
namespace NQ
open PySem L2
/-! ### x = a part of what is one's own: the part is x's to the end of the block -/
def sBor (i j : Nat) (πf : Pf) (G : Sf) : Sf := fun δ => match πf δ, dAt δ i with
  | some π, some t => match getP t π with
    | some t' => match G ((δ.set i none).set j (some t')) with
      | some (fl, δ') => match dAt δ' j with
        | some w => match setP t π w with
          | some t2 => if i < δ'.length ∧ j < δ.length then some (fl, (δ'.set j none).set i (some t2)) else none
          | none => none
        | none => none
      | none => none
    | none => none
  | _, _ => none
section
variable {X : Cx} {K : PySem.W.Frag} {c : Cf} {Wx : WX} {rest : List Stmt} {G : Sf} {e : Expr} {pos : Pos} {i j : Nat} {πf : Pf}
end
end NQ
namespace NL
open PySem L2
/-! ### an own class made: defaults and keywords -/
structure MkN (P : Program) (w : World) (K : PySem.W.Frag) (mg : Str → Option Value) (base : Heap) (k : Nat) (x : Str) (C : Addr) (ps : List Str) (n : Nat) (ks : List Str) (gV : List V → List V → List V) (sp : Sp) : Prop where
  g : mg x = some (.ref C)
  fn : ∃ (f : Addr) (fd : FuncData) (gg : List Value → List Value → List Value), Mk K C f ∧ KBn K fd ps (n + 1) ks gg gV ∧ FnOk P w K mg base (L2.CX P w) k f fd ps sp
section
variable {X : Cx} {k n : Nat} {x : Str} {C : Addr} {e : Expr} {es : List Expr} {kws : List Keyword} {t tk : TA} {p pos : Pos} {ps ks : List Str} {sp : Sp} {W : WX} {gV : List V → List V → List V}
end
end NL
namespace NQ
open PySem L2
def fMakeK (cl : Str) (F : List T → Fo) (gT : List T → List T) (os : List Opd) : Dl → Rs := fun δ => match runs os δ with
  | none => none
  | some (.error e, δ') => some (.error e, δ')
  | some (.ok l, δ') => match res l δ' with
    | none => none
    | some ts => match F (.ins cl [] [] :: gT ts) with
      | some (.ret .non, o :: _) => some (.ok o, δ')
      | some (.exc e, _) => some (.error e, δ')
      | _ => none
theorem TOs_app {K : PySem.W.Frag} {sh : Nat → Sh} {Wx : WX} {σ : L2.St} : ∀ {os os2 : List Opd} {H : Hp} {Q : List V → Hp → Prop}, TOs K sh Wx (os ++ os2) σ H Q → TOs K sh Wx os σ H fun vs H1 => TOs K sh Wx os2 σ H1 fun zs H2 => vs.length = os.length ∧ Q (vs ++ zs) H2
  | [], os2, H, Q, h => by
    show TOs K sh Wx os2 σ H _
    exact TOs.mono' (fun zs H2 q => ⟨rfl, q⟩) h
  | o :: os, os2, H, Q, h => by
    show TO K sh Wx o σ H fun y H2 => _
    refine TO.mono σ H _ _ (fun x H' q => ?_) h
    have := TOs_app (os := os) (os2 := os2) q
    refine TOs.mono' (fun vs H1 q => ?_) this
    refine TOs.mono' (fun zs H2 q => ?_) q
    exact ⟨congrArg Nat.succ q.1, q.2⟩
where
  TOs.mono' {K : PySem.W.Frag} {sh : Nat → Sh} {Wx : WX} {σ : L2.St} : ∀ {os : List Opd} {H : Hp} {Q Q' : List V → Hp → Prop}, (∀ vs H', Q vs H' → Q' vs H') → TOs K sh Wx os σ H Q → TOs K sh Wx os σ H Q'
    | [], H, Q, Q', i, h => i _ _ h
    | o :: os, H, Q, Q', i, h => by
      show TO K sh Wx o σ H fun y H2 => _
      refine TO.mono σ H _ _ (fun x H' q => ?_) h
      exact TOs.mono' (os := os) (fun vs H1 q => i _ _ q) q
theorem TOs.mono' {K : PySem.W.Frag} {sh : Nat → Sh} {Wx : WX} {σ : L2.St} {os : List Opd} {H : Hp} {Q Q' : List V → Hp → Prop} (i : ∀ vs H', Q vs H' → Q' vs H') (h : TOs K sh Wx os σ H Q) : TOs K sh Wx os σ H Q' := TOs_app.TOs.mono' i h
section
variable {K : PySem.W.Frag} {sh : Nat → Sh} {Wx : WX} {ps : List Sh} {F : List T → Fo} {cl : Str} {d : List (Str × Sh)} {σ : L2.St} {Q : VK} {W : Addr → Prop} {Y : List Addr} {Fm1 : Nat → List Addr} {H1 : Hp} {δ' : Dl}
end
section
variable {X : Cx} {K : PySem.W.Frag} {sh : Nat → Sh} {Wx : WX} {ps : List Sh} {F : List T → Fo} {os os2 : List Opd} {k n : Nat} {cl : Str} {e : Expr} {es : List Expr} {params ks : List Str} {p pos : Pos} {d : List (Str × Sh)} {gV : List V → List V → List V} {gT : List T → List T} {kws : List Keyword}
end
end NQ
namespace PySem
open Sem (wp)
/-! ### enumerate(v), v told by how it begins -/
section
variable {prog : Program} {w : World} {A : Around} {E : Value → Shared → Prop} {s : Shared}
end
end PySem
namespace NL
open PySem PySem.Spec PyProof.Rows L2
end NL
namespace NQ
open PySem L2
/-! ### enumerate of a list or tuple; zip of two lists, of two tuples -/
section
variable {K : PySem.W.Frag} {G : Addr → Prop} {H : Hp} {a b : Addr} {vs ws : List V} {ts us : List T}
def zpT (ts us : List T) : List T := List.zipWith (fun x y => T.tup [x, y]) ts us
end
section
variable {X : Cx} {K : PySem.W.Frag} {sh : Nat → Sh} {Wx : WX} {tg e e2 : Expr} {es : List Expr} {pos p : Pos}
def itEn2 (f : Dl → Rs) : Il := fun δ => match f δ with
  | some (.ok (.lst ts), δ') => some (.ok (enT ts), δ')
  | some (.ok (.tup ts), δ') => some (.ok (enT ts), δ')
  | some (.ok (.ctup ts), δ') => some (.ok (enT ts), δ')
  | some (.error e, δ') => some (.error e, δ')
  | _ => none
def zipT : T → T → Option (List T)
  | .lst ts, .lst us => some (zpT ts us)
  | .tup ts, .tup us => some (zpT ts us)
  | _, _ => none
def itZ (f g : Dl → Rs) : Il := fun δ => match f δ with
  | none => none
  | some (.error e, δ') => some (.error e, δ')
  | some (.ok t, δ1) => match g δ1 with
    | none => none
    | some (.error e, δ') => some (.error e, δ')
    | some (.ok u, δ') => match zipT t u with
      | some ts => some (.ok ts, δ')
      | none => none
end
end NQ
namespace NL
open PySem PySem.Spec PyProof.Rows L2
/-! ### an own class's special methods: o[i], o[i] = e, a | b, a == b -/
section
variable {X : Cx} {k : Nat} {C : Addr} {o i e a b : Expr} {to ti ta tb : TE} {pos : Pos} {ps : List Str} {sp : Sp} {W : WX}
/-- the object an address stands for -/
theorem inst_of {pins : List (Addr × Obj)} {σ : L2.St} {H : Hp} {s : Shared} {x dx : Addr} {fs : List (Str × V)} (I : Inv X pins σ H s) (ea : H x = some (.ins C dx fs)) : ∃ od, PySem.W.InstAt s.heap x (PySem.W.instObj C dx) C (some od) := by
  obtain ⟨mA, O, _⟩ := ins_get I.hok ea
  obtain ⟨od, J, _⟩ := O.look
  exact ⟨od, J⟩
/-- a def run one level deeper -/
theorem run_in1 {f : Addr} {fd : FuncData} {pins : List (Addr × Obj)} {σ : L2.St} {H : Hp} {s : Shared} {Q : VK} {us : List Value} {vs : List V} (F : FnOk X.prog X.w X.K X.mg X.base (L2.CX X.prog X.w) k f fd ps sp) (hr : Room (k + 1) X.A) (hb : Binds X.K fd ps []) (tk : Takes X W) (I : Inv X pins σ H s) (r : Vals vs us) (h : sp vs H Q (WE W σ)) :
    wpAny (model X.prog X.w) X.A.in1 (call (.ref f) us) (EP X pins σ Q) X.xe s := by
  have hl : us.length = ps.length := by rw [← r.length]; exact F.len _ _ _ _ h
  have b := hb s us I.kIn (by rw [List.append_nil]; exact hl)
  rw [List.append_nil] at b
  refine wpAny_call (codeAny_mono (F.run X.A.in1 X.stack s H ⟨us, []⟩ us vs Q (WE W σ) hr.in1 I.env0.in1 b r h) fun r s' hq => ?_)
  cases r with
  | error e => exact passAt tk σ pins H s e s' I hq
  | ok fl =>
    cases fl with
    | ret u => exact I.after hq
    | next => exact False.elim hq
    | brk => exact False.elim hq
    | cont => exact False.elim hq
end
end NL
namespace NQ
open PySem L2
/-! ### special methods of own classes -/
/-- the operands at the places js are objects of the class cl -/
def insAt (cl : Str) : List Nat → List T → Bool
  | [], _ => true
  | j :: js, ts => (match ts[j]? with
    | some (.ins c _ _) => decide (c = cl)
    | _ => false) && insAt cl js ts
def fSp (cl : Str) (js : List Nat) (ps : List Sh) (F : List T → Fo) (os : List Opd) : Dl → Rs := fun δ => match runs os δ with
  | none => none
  | some (.error e, δ') => some (.error e, δ')
  | some (.ok l, δ') => match res l δ' with
    | none => none
    | some ts => if insAt cl js ts = true then (match F ts with
      | none => none
      | some (.ret t, ts') => if ts'.length = ps.length then some (.ok t, wb ps (skO os) ts' δ') else none
      | some (.exc e, ts') => if ts'.length = ps.length then some (.error e, wb ps (skO os) ts' δ') else none) else none
section
variable {X : Cx} {K : PySem.W.Frag} {sh : Nat → Sh} {Wx : WX} {ps : List Sh} {rs : Sh} {F : List T → Fo} {os : List Opd} {cl : Str} {js : List Nat}
end
section
variable {X : Cx} {K : PySem.W.Frag} {sh : Nat → Sh} {Wx : WX} {ps : List Sh} {rs : Sh} {F : List T → Fo} {o1 o2 : Opd} {cl : Str} {k : Nat} {o i a b e : Expr} {params : List Str} {pos : Pos}
end
/-! ### o[i] = e, o one's own object -/
def sSetO (cl : Str) (ps : List Sh) (F : List T → Fo) (i : Nat) (q : Qf) (f : Dl → Rs) : Sf := fun δ => match f δ with
  | none => none
  | some (.error e, δ') => some (.exc e, δ')
  | some (.ok t, δ1) => match dAt δ1 i, q δ1 with
    | some (.ins c fs us), some k => if c = cl then (match F [.ins c fs us, k, t] with
      | some (.ret r, o' :: ts') => if (o' :: ts').length = ps.length then some (.nx, δ1.set i (some o')) else none
      | some (.exc e, o' :: ts') => if (o' :: ts').length = ps.length then some (.exc e, δ1.set i (some o')) else none
      | _ => none) else none
    | _, _ => none
section
variable {X : Cx} {K : PySem.W.Frag} {c : Cf} {Wx : WX} {d : List (Str × Sh)} {F : List T → Fo} {cl : Str} {k i : Nat} {o ix e : Expr} {params : List Str} {pos p2 : Pos} {q : Qf} {f : Dl → Rs}
end
end NQ
namespace NQ
open PySem L2
/-! ### not a, as a value -/
def notV (u : Qf) : Qf := fun δ => match u δ with
  | some t => match truW t with
    | some b => some (.bl (!b))
    | none => none
  | none => none
def notW (f : Dl → Rs) : Dl → Rs := fun δ => match f δ with
  | none => none
  | some (.error e, δ') => some (.error e, δ')
  | some (.ok t, δ') => match truW t with
    | some b => some (.ok (.bl (!b)), δ')
    | none => none
section
variable {X : Cx} {K : PySem.W.Frag} {sh : Nat → Sh} {Wx : WX} {a b c e : Expr} {pos p p2 : Pos} {u : Qf} {f g : Dl → Rs} {m m3 : Md} {h : Qf} {o o' : CmpOp} {op op' : Op}
/-! ### tuple(range(..)), list(range(..)) -/
def rgT (a b : Int) : List T := (List.range (b - a).toNat).map fun i => T.int (a + (i : Nat))
def tupRg (f : Dl → Rs) : Dl → Rs := fun δ => match f δ with
  | some (.ok (.int n), δ') => if 0 ≤ n ∧ n ≤ 16777216 then some (.ok (.tup (rgT 0 n)), δ') else none
  | some (.error e, δ') => some (.error e, δ')
  | _ => none
def lstRg (f : Dl → Rs) : Dl → Rs := fun δ => match f δ with
  | some (.ok (.int n), δ') => if 0 ≤ n ∧ n ≤ 16777216 then some (.ok (.lst (rgT 0 n)), δ') else none
  | some (.error e, δ') => some (.error e, δ')
  | _ => none
/-! ### C.NAME, a constant tuple of a class -/
structure CNm (K : PySem.W.Frag) (C : Str) (f : Str) (ts : List T) : Prop where
  cr : ClX.CRead K (He.ga K C) (.type "type")
  cv : ∃ a : Addr, ClX.CVal K (He.ga K C) (.type "type") f (.ref a) (.ref a) ∧ ∀ H : Hp, SqT K H a (ts.map T.sv)
/-! ### a < b < c, the first two no mere readings -/
def chE (op op' : Op) (f g : Dl → Rs) (h : Qf) : Dl → Rs := fun δ => match f δ with
  | none => none
  | some (.error e, δ') => some (.error e, δ')
  | some (.ok x, δ1) => match g δ1 with
    | none => none
    | some (.error e, δ') => some (.error e, δ')
    | some (.ok y, δ2) => match op [x, y] with
      | some (.bl true) => match h δ2 with
        | some z => match op' [y, z] with
          | some r => some (.ok r, δ2)
          | none => none
        | none => none
      | some (.bl false) => some (.ok (.bl false), δ2)
      | _ => none
end
end NQ
namespace NL
open PySem L2
/-! ### more facts of the written part: class constants, what a class is not -/
inductive Fz where
  | cnm (x f : Str) (vs : List He.Dv)
  | nsq (x : Str)
  | slf (x : Str)
def cnmB (K : PySem.W.Frag) (C : Addr) (f : Str) (vs : List He.Dv) : Bool := match PySem.W.findCls K (.ref C) (.type "type") f with
  | some (.val (.ref a)) => (match K.lookup a with
    | some ⟨.type c, _, .seq its _, _⟩ => decide (c = "tuple") && (decide (its.size ≤ sizeLine) && He.relAll (vs.map (He.Dv.v K)) its.toList)
    | _ => false)
  | _ => false
def Fz.ok (K : PySem.W.Frag) : Fz → Bool
  | .cnm x f vs => PySem.W.readsIn K (He.ga K x) (.type "type") && cnmB K (He.ga K x) f vs
  | .nsq x => PySem.W.noSeq K (He.ga K x)
  | .slf x => PySem.W.selfFirst K (He.ga K x)
def fzB (l : List Fz) (K : PySem.W.Frag) : Bool := l.all fun f => f.ok K
end NL
namespace NQ
open PySem L2
/-! ### comprehensions whose items are things of one's own -/
section
variable {X : Cx} {K : PySem.W.Frag} {c : Cf} {Wx : WX} {its : Il} {g : Gf} {cnd : Dl → Rb} {el : Dl → Rs} {vs ns : List Nat} {σ : L2.St} {H : Hp} {Q : VK} {s : Sh}
variable {elt tg iter : Expr} {ifs : List Expr} {scope : Scope} {own : List (Str × Nat)} {pos : Pos}
variable {y : Str} {py spos : Pos}
end
end NQ
namespace NQ
open PySem L2
/-! ### a, b = e1, e2 of plain locals -/
def sPar2 (i j : Nat) (f g : Dl → Rs) : Sf := fun δ => match f δ with
  | none => none
  | some (.error e, δ') => some (.exc e, δ')
  | some (.ok t, δ1) => match g δ1 with
    | none => none
    | some (.error e, δ') => some (.exc e, δ')
    | some (.ok u, δ2) => if i < δ2.length ∧ j < δ2.length then some (.nx, (δ2.set i (some t)).set j (some u)) else none
section
variable {X : Cx} {K : PySem.W.Frag} {c : Cf} {sh : Nat → Sh} {Wx : WX} {f g : Dl → Rs} {a b e : Expr}
theorem Ke.held {W : Addr → Prop} {F Y : List Addr} {Fm : Nat → List Addr} {σ : L2.St} {H : Hp} {e : Xn} {δ' : Dl} (h : Ke K sh Wx W Y Fm σ H e δ') : Ke K sh Wx W (F ++ Y) Fm σ H e δ' := fun d v H' Fm' f' x' q dv =>
  h d v H' Fm' f'.let x' ⟨fun z => q.1 (z.imp (fun z => z.imp (fun w => List.mem_append_right _ w) id) id), q.2⟩ (dv.weak fun a z => z.imp (fun z => z.imp (fun w => List.mem_append_right _ w) id) id)
end
end NQ
namespace NL
open PySem PySem.Spec PyProof.Rows L2
/-! ### the keys of a dict that is locked as soon as it is told, and let go behind the statement -/
def NoF (X : Cx) (d : Addr) : Prop := ∀ o' u', X.H_0 d ≠ some (.frz o' u')
section
variable {X : Cx} {tg e : Expr} {td : TE}
end
end NL
namespace NQ
open PySem L2
/-! ### a frozen dict is locked, or let go: what the frame tells stays -/
def Du (u : HO) : Prop := (∃ kvs, u = .dK kvs) ∨ ∃ kvs, u = .dT kvs
def Lk (d : Addr) (H H' : Hp) : Prop := (∀ b, b ≠ d → H' b = H b) ∧ ∃ o u, Du u ∧ ((H d = some u ∧ H' d = some (.frz o u)) ∨ (H d = some (.frz o u) ∧ H' d = some u))
theorem Du.nf {u : HO} (h : Du u) : ∀ o w, u ≠ .frz o w := by rcases h with ⟨_, rfl⟩ | ⟨_, rfl⟩ <;> exact fun _ _ z => nomatch z
theorem Du.nt {u : HO} (h : Du u) : ∀ xs, u ≠ .tup xs := by rcases h with ⟨_, rfl⟩ | ⟨_, rfl⟩ <;> exact fun _ z => nomatch z
theorem Du.ni {u : HO} (h : Du u) : ∀ a b c, u ≠ .ins a b c := by rcases h with ⟨_, rfl⟩ | ⟨_, rfl⟩ <;> exact fun _ _ _ z => nomatch z
theorem Du.nx {u : HO} (h : Du u) : ∀ a, u ≠ .xd a := by rcases h with ⟨_, rfl⟩ | ⟨_, rfl⟩ <;> exact fun _ z => nomatch z
section
variable {d a : Addr} {H H' H1 : Hp} {u w : HO} {o : Obj} {K : PySem.W.Frag} {G : Addr → Prop}
theorem lk_lock (e : H d = some u) (h : Du u) : Lk d H (upd H d (.frz o u)) := ⟨fun b n => upd_ne n, o, u, h, .inl ⟨e, upd_same⟩⟩
theorem lk_unl (e : H d = some (.frz o u)) (h : Du u) : Lk d H (upd H d u) := ⟨fun b n => upd_ne n, o, u, h, .inr ⟨e, upd_same⟩⟩
theorem Lk.rd (l : Lk d H H') (n : ∀ o v, w ≠ .frz o v) (h : Rd H a w) : Rd H' a w := by
  by_cases z : a = d
  · subst z
    obtain ⟨_, o, u, du, ⟨e1, e2⟩ | ⟨e1, e2⟩⟩ := l
    · rcases h with h | ⟨o', h⟩ <;> rw [e1] at h
      · cases h; exact .inr ⟨o, e2⟩
      · exact absurd (Option.some.inj h) (du.nf _ _)
    · rcases h with h | ⟨o', h⟩ <;> rw [e1] at h
      · exact absurd (Option.some.inj h).symm (n _ _)
      · cases h; exact .inl e2
  · unfold Rd at h ⊢
    rw [l.1 a z]
    exact h
theorem Lk.alive (l : Lk d H H') : H' d ≠ none ∧ H d ≠ none := by
  obtain ⟨_, o, u, du, ⟨e1, e2⟩ | ⟨e1, e2⟩⟩ := l <;> rw [e1, e2] <;> exact ⟨(fun z => nomatch z), fun z => nomatch z⟩
theorem Lk.keep (l : Lk d H H') (n : ∀ o, H d = some o → o = w → False) (h : H a = some w) : H' a = some w := by
  by_cases z : a = d
  · subst z; exact (n _ h rfl).elim
  · rw [l.1 a z]; exact h
theorem Lk.keepI (l : Lk d H H') (n1 : ∀ u, Du u → u ≠ w) (n2 : ∀ o u, w ≠ .frz o u) (h : H a = some w) : H' a = some w := by
  refine l.keep (fun o e z => ?_) h
  subst z
  obtain ⟨_, o', u, du, ⟨e1, _⟩ | ⟨e1, _⟩⟩ := l <;> rw [e1] at e
  · exact n1 u du (Option.some.inj e)
  · exact n2 _ _ (Option.some.inj e).symm
theorem Lk.nt (l : Lk d H H') (h : NT H a) : NT H' a := by
  by_cases z : a = d
  · subst z
    obtain ⟨_, o, u, du, ⟨e1, e2⟩ | ⟨e1, e2⟩⟩ := l
    · exact .of e2
    · exact .of e2 du.nt
  · exact h.eq (l.1 a z)
theorem Lk.none (l : Lk d H H') : H' a = none ↔ H a = none := by
  by_cases z : a = d
  · subst z
    exact ⟨fun q => absurd q l.alive.1, fun q => absurd q l.alive.2⟩
  · rw [l.1 a z]
theorem CellR.lk {t : T} {vs : List V} (l : Lk d H H') (h : CellR K H a t vs) : CellR K H' a t vs := by
  unfold CellR at h ⊢
  split at h
  · exact l.rd (fun _ _ z => nomatch z) h
  · exact l.keepI (fun u du => du.nt _) (fun _ _ z => nomatch z) h
  · exact ⟨h.1, l.rd (fun _ _ z => nomatch z) h.2⟩
  · exact ⟨h.1, l.rd (fun _ _ z => nomatch z) h.2⟩
  · obtain ⟨h0, dx, h⟩ := h
    exact ⟨h0, dx, l.keepI (fun u du => du.ni _ _ _) (fun _ _ z => nomatch z) h⟩
  · exact h.elim
theorem Cell.lk {t : T} {vs : List V} (l : Lk d H H') (n : a ≠ d) (h : Cell K H a t vs) : Cell K H' a t vs := h.keep fun o e => by rw [l.1 a n]; exact e
mutual
theorem Df.lk (l : Lk d H H') : ∀ {v : V} {t : T}, Df K G H v t → Df K G H' v t
  | _, _, .sc h => .sc h
  | _, _, .nd n c r => .nd n (c.lk l) (DfL.lk l r)
theorem DfL.lk (l : Lk d H H') : ∀ {vs : List V} {ts : List T}, DfL K G H vs ts → DfL K G H' vs ts
  | _, _, .nil => .nil
  | _, _, .cons h r => .cons (Df.lk l h) (DfL.lk l r)
end
mutual
theorem Ow.lk (l : Lk d H H') : ∀ {s : Sh} {F : List Addr} {v : V} {t : T}, d ∉ F → Ow K G H s F v t → Ow K G H' s F v t
  | _, _, _, _, _, .fz h => .fz (h.lk l)
  | _, _, _, _, n, .nd c k r => .nd (c.lk l fun z => n (by rw [z]; exact List.mem_cons_self ..)) k (OwL.lk l (fun z => n (List.mem_cons_of_mem _ z)) r)
  | _, _, _, _, _, .optN => .optN
  | _, _, _, _, n, .optS h => .optS (Ow.lk l n h)
theorem OwL.lk (l : Lk d H H') : ∀ {ss : List Sh} {F : List Addr} {vs : List V} {ts : List T}, d ∉ F → OwL K G H ss F vs ts → OwL K G H' ss F vs ts
  | _, _, _, _, _, .nil => .nil
  | _, _, _, _, n, .cons h r => .cons (Ow.lk l (fun z => n (List.mem_append_left _ z)) h) (OwL.lk l (fun z => n (List.mem_append_right _ z)) r)
end
variable {sh : Nat → Sh} {W : Addr → Prop} {X : List Addr} {Fm Fm' : Nat → List Addr} {σ : L2.St} {δ : Dl} {s : Sh} {F : List Addr} {v : V} {t : T}
theorem Sr.lk (l : Lk d H H') (n : d ∉ F) (h : Sr K X Fm W H s F v t) : Sr K X Fm W H' s F v t := by
  rcases h with (⟨h1, h2, h3⟩ | ⟨h1, a, e, c, f, u, h2, h3, h4, h5, h6⟩) | h
  · exact .inl (.inl ⟨h1, h2, h3.lk l⟩)
  · exact .inl (.inr ⟨h1, a, e, c, f, u, h2, h3, h4, l.keepI (fun u du => du.nx _) (fun _ _ z => nomatch z) h5, h6.lk l⟩)
  · exact .inr (h.lk l n)
theorem Fr.lk (f : Fr K sh W X Fm H σ δ) (l : Lk d H H') (n : ¬ Om Fm d) : Fr K sh W X Fm H' σ δ :=
  ⟨fun i t h => by obtain ⟨v, h1, h2⟩ := f.rel i t h; exact ⟨v, h1, h2.lk l fun z => n ⟨i, z⟩⟩, f.un, f.nd, f.dj, f.dw, fun a z => l.nt (f.wl a z), f.len, f.xn, f.xd, f.xw, fun a z => l.nt (f.xl a z)⟩
/-- from the lock to the end: as if it had not been -/
theorem Xt.lk {U U' : Addr → Prop} (e : H d = some u) (du : Du u) (n : ¬ U d) (x : Xt U U' (upd H d (.frz o u)) H1) : H1 d = some (.frz o u) ∧ Xt U U' H (upd H1 d u) := by
  have h1 : H1 d = some (.frz o u) := x.1.1 d _ n upd_same
  have l1 : Lk d H (upd H d (.frz o u)) := lk_lock e du
  have l2 : Lk d H1 (upd H1 d u) := lk_unl h1 du
  refine ⟨h1, ⟨fun a w nu q => ?_, fun a q => ?_, fun a q => l2.nt (x.1.2.2 a (l1.nt q))⟩, fun a q => (x.2 a q).imp id fun y => l1.none.mp y⟩
  · by_cases z : a = d
    · subst z; rw [upd_same, ← q, e]
    · rw [upd_ne z]
      exact x.1.1 a w nu (by rw [upd_ne z]; exact q)
  · exact fun y => x.1.2.1 a (fun y2 => q (l1.none.mp y2)) (l2.none.mp y)
end
/-! ### for k in d -/
def keyT : Key → T
  | .inl i => .int i
  | .inr s => .str s
def keyOk : Key → Bool
  | .inl _ => true
  | .inr s => PyData.strOk s
def itK : T → Option (List T)
  | .dic ks ts => if ks.length = ts.length ∧ ks.all keyOk = true then some (ks.map keyT) else none
  | .dit ks ts => if ks.length = ts.length ∧ (ks.all fun k => k.all keyOk) = true then some (ks.map fun k => .tup (k.map keyT)) else none
  | _ => none
def noX : Ss → Ss
  | some (.exc _, _) => none
  | r => r
def sForK (f : Dl → Rs) (g : Gf) (b : Sf) : Sf := fun δ => match f δ with
  | none => none
  | some (.error e, δ') => some (.exc e, δ')
  | some (.ok t, δ') => match itK t with
    | some ts => noX (forM ts g b δ')
    | none => none
section
variable {K : PySem.W.Frag} {c : Cf} {Wx : WX} {W : Addr → Prop} {Y : List Addr} {Fm : Nat → List Addr} {H : Hp} {σ : L2.St} {δ : Dl} {g : Gf} {b : Sf} {ns : List Nat} {D : Ends} {J : It} {ts : List T} {d : Addr} {o : Obj} {G : Addr → Prop}
end
section
variable {X : Cx} {K : PySem.W.Frag} {c : Cf} {Wx : WX} {W : Addr → Prop} {Y : List Addr} {Fm : Nat → List Addr} {H : Hp} {σ : L2.St} {δ : Dl} {g : Gf} {b : Sf} {ns : List Nat} {D : Ends} {d : Addr} {u : HO} {o : Obj} {r : Ss} {N : L2.St → Hp → Prop} {δ' : Dl}
theorem Kx.lk (e : H d = some u) (du : Du u) (n : ¬ Om Fm d) (nf : NL.NoF X d) (k : Kx K c W Y Fm σ H δ' N) :
    Kx K c W Y Fm σ (upd H d (.frz o u)) δ' fun σ' H' => N σ' H' ∨ ∃ d od u, H' d = some (.frz od u) ∧ NL.NoF X d ∧ N σ' (upd H' d u) := fun σ' H' Fm' kp fr xt => by
  obtain ⟨h1, x2⟩ := xt.lk e du n
  refine .inr ⟨d, o, u, h1, nf, k σ' _ Fm' kp (fr.lk (lk_unl h1 du) fun z => ?_) x2⟩
  exact (x2.2 d z).elim n fun q => by rw [q] at e; cases e
theorem Df.dic {G : Addr → Prop} {x : V} {ks : List Key} {ts : List T} (h : Df K G H x (.dic ks ts)) : ∃ a vs, x = .ref a ∧ ¬ G a ∧ ks.length = vs.length ∧ Rd H a (.dK (ks.zip vs)) := by
  cases h with
  | sc h => exact h.elim
  | nd n c r => exact ⟨_, _, rfl, n, c.1, c.2⟩
theorem Df.dit {G : Addr → Prop} {x : V} {ks : List (List Key)} {ts : List T} (h : Df K G H x (.dit ks ts)) : ∃ a vs, x = .ref a ∧ ¬ G a ∧ ks.length = vs.length ∧ Rd H a (.dT (ks.zip vs)) := by
  cases h with
  | sc h => exact h.elim
  | nd n c r => exact ⟨_, _, rfl, n, c.1, c.2⟩
variable {tg e : Expr} {f : Dl → Rs} {body : List Stmt} {pos : Pos}
end
end NQ
namespace NQ
open PySem L2
/-! ### x = a part of what is one's own: the part is x's from here on, the rest is let go -/
def sMov (i j : Nat) (πf : Pf) : Sf := fun δ => match πf δ, dAt δ i with
  | some π, some t => match getP t π with
    | some t' => if j < δ.length then some (.nx, (δ.set i none).set j (some t')) else none
    | none => none
  | _, _ => none
section
variable {X : Cx} {K : PySem.W.Frag} {c : Cf} {Wx : WX} {rest : List Stmt} {G : Sf} {e : Expr} {pos : Pos} {i j : Nat} {πf : Pf}
end
/-! ### a list whose items are one's own: new ones, or variables that are given away -/
inductive Oo where
  | new (f : Dl → Rs) | mov (i : Nat)
def runO : List (Sh × Oo) → Dl → Option (Except Xn (List T) × Dl)
  | [], δ => some (.ok [], δ)
  | (_, .new f) :: r, δ => match f δ with
    | none => none
    | some (.error e, δ') => some (.error e, δ')
    | some (.ok t, δ1) => match runO r δ1 with
      | some (.ok ts, δ') => some (.ok (t :: ts), δ')
      | some (.error e, δ') => some (.error e, δ')
      | none => none
  | (_, .mov i) :: r, δ => match dAt δ i with
    | none => none
    | some t => match runO r (δ.set i none) with
      | some (.ok ts, δ') => some (.ok (t :: ts), δ')
      | some (.error e, δ') => some (.error e, δ')
      | none => none
def fLstO (os : List (Sh × Oo)) : Dl → Rs := fun δ => match runO os δ with
  | none => none
  | some (.error e, δ') => some (.error e, δ')
  | some (.ok ts, δ') => if ts.length ≤ sizeLine then some (.ok (.lst ts), δ') else none
section
variable {K : PySem.W.Frag} {sh : Nat → Sh} {Wx : WX} {W : Addr → Prop} {Y F : List Addr} {Fm Fm0 : Nat → List Addr} {H H0 : Hp} {σ : L2.St} {δ δ' : Dl} {e : Xn} {G : Addr → Prop}
theorem OwL.app : ∀ {ss ss' : List Sh} {F F' : List Addr} {vs vs' : List V} {ts ts' : List T}, OwL K G H ss F vs ts → OwL K G H ss' F' vs' ts' → OwL K G H (ss ++ ss') (F ++ F') (vs ++ vs') (ts ++ ts')
  | _, _, _, _, _, _, _, _, .nil, h => h
  | _, _, _, _, _, _, _, _, .cons h r, q => by
    have := OwL.cons h (OwL.app r q)
    rw [← List.append_assoc] at this
    exact this
theorem OwL.len : ∀ {ss : List Sh} {F : List Addr} {vs : List V} {ts : List T}, OwL K G H ss F vs ts → ss.length = ts.length ∧ vs.length = ts.length
  | _, _, _, _, .nil => ⟨rfl, rfl⟩
  | _, _, _, _, .cons _ r => ⟨congrArg Nat.succ r.len.1, congrArg Nat.succ r.len.2⟩
end
section
variable {X : Cx} {K : PySem.W.Frag} {sh : Nat → Sh} {Wx : WX} {es : List Expr} {pos : Pos} {s S : Sh} {os : List (Sh × Oo)}
end
end NQ
namespace PySem
open Sem (wp)
section
variable {prog : Program} {w : World} {K : Type} [DecidableEq K] {knd : KeyKind prog w K} {A : Around} {E : Value → Shared → Prop} {s : Shared}
theorem IsTupleKey.more {h h' : Heap} {ks : List K} {a : Addr} (x : IsTupleKey knd h ks a) (k : ∀ o, h.get? a = some o → h'.get? a = some o) : IsTupleKey knd h' ks a := by
  obtain ⟨o, its, n, h1, r⟩ := x
  exact ⟨o, its, n, k _ h1, r⟩
end
end PySem
namespace L2
open PySem PySem.Spec PyProof.Rows
section
variable {X : Cx}
end
end L2
namespace NQ
open PySem L2
/-! ### dict(d), d's keys tuples of ints whose hashes differ -/
section
variable {X : Cx} {K : PySem.W.Frag} {a : Expr} {pos p : Pos}
end
end NQ
namespace NQ
open PySem L2
/-! ### f(e): e is made for the call alone -/
def fCallT (F : List T → Fo) (f : Dl → Rs) : Dl → Rs := fun δ => match f δ with
  | none => none
  | some (.error e, δ') => some (.error e, δ')
  | some (.ok t, δ') => match F [t] with
    | some (.ret r, _) => some (.ok r, δ')
    | some (.exc e, _) => some (.error e, δ')
    | none => none
section
variable {K : PySem.W.Frag} {sh : Nat → Sh} {W U : Addr → Prop} {Y F1 : List Addr} {Fm Fm1 : Nat → List Addr} {H H' H1 : Hp} {σ : L2.St} {δ : Dl} {s : Sh} {x : V} {t : T}
end
section
variable {X : Cx} {K : PySem.W.Frag} {sh : Nat → Sh} {Wx : WX} {s : Sh} {F : List T → Fo} {f : Dl → Rs} {k : Nat} {x : Str} {e : Expr} {params : List Str} {p pos : Pos}
end
end NQ
namespace NL
open PySem PySem.Spec PyProof.Rows L2
/-! ### several clauses, with or without a name, and an else -/
abbrev Wc := Addr → Value → Option Addr → TS
/-- a clause with a name: the slot i holds the exception while the suite runs -/
def asW (i : Nat) (ts : Wc) : Wc := fun a cls d D σ H => ts a cls d { D with nx := fun τ G => D.nx (τ.set i none) G, bk := fun τ G => D.bk (τ.set i none) G, ct := fun τ G => D.ct (τ.set i none) G } (σ.set i (some (.ref a))) H
inductive HdA (X : Cx) : List ExceptHandler → List (Value × Wc) → Prop
  | nil : HdA X [] []
  | one {x : Str} {c : Value} {ts : Wc} {b₀ : Stmt} {suite : List Stmt} {np q0 : Pos} {hds : List ExceptHandler} {l : List (Value × Wc)} (hc : Names X x c)
      (hsu : ∀ (a : Addr) (o0 : Obj) (cls : Value) (d : Option Addr) (pn : List (Addr × Obj)), Zc cls d o0 → (∃ vs, o0.data = .fields vs) → PSs (X.suite a ((a, o0) :: pn)) (b₀ :: suite) (ts a cls d)) (r : HdA X hds l) :
      HdA X (.ExceptHandler (some (.Name x np)) none (b₀ :: suite) q0 :: hds) ((c, ts) :: l)
  | named {x n : Str} {i : Nat} {c : Value} {ts : Wc} {b₀ : Stmt} {suite : List Stmt} {np q0 : Pos} {hds : List ExceptHandler} {l : List (Value × Wc)} (hc : Names X x c) (hi : X.N[i]? = some n) (hln : X.env.kindOf n = some .local)
      (hsu : ∀ (a : Addr) (o0 : Obj) (cls : Value) (d : Option Addr) (pn : List (Addr × Obj)), Zc cls d o0 → (∃ vs, o0.data = .fields vs) → PSs (X.suite a ((a, o0) :: pn)) (b₀ :: suite) (ts a cls d)) (r : HdA X hds l) :
      HdA X (.ExceptHandler (some (.Name x np)) (some n) (b₀ :: suite) q0 :: hds) ((c, asW i ts) :: l)
section
variable {X : Cx} {body orelse : List Stmt} {h₀ : ExceptHandler} {hds : List ExceptHandler} {l : List (Value × Wc)} {pos : Pos} {tb : WX → TS} {Wout : WX} {u : TS}
end
end NL
namespace NQ
open PySem L2
/-! ### try with several clauses and an else -/
inductive Hx where
  | one (m : List (Str × Bool)) (G : Sf)
  | as (m : List (Str × Bool)) (fl : Str) (i : Nat) (G : Xn → Sf)
def hdM : List Hx → Xn → Dl → Ss
  | [], e, δ => some (.exc e, δ)
  | .one m G :: r, e, δ => match m.lookup e.cls with
    | some true => (match G δ with
      | some (.exc _, _) => none
      | r => r)
    | some false => hdM r e δ
    | none => none
  | .as m fl i G :: r, e, δ => match m.lookup e.cls with
    | some true => if e.fld = fl ∧ i < δ.length then (match G e (δ.set i (some e.val)) with
      | some (.exc _, _) => none
      | some (fl, δ2) => some (fl, δ2.set i none)
      | none => none) else none
    | some false => hdM r e δ
    | none => none
def sTryA (hs : List Hx) (F E : Sf) : Sf := fun δ => match F δ with
  | some (.exc e, δ') => hdM hs e δ'
  | some (.nx, δ') => E δ'
  | r => r
abbrev noWx : WX := fun _ _ _ _ => False
def tsAs (X : Cx) (c : Cf) (fl : Str) (i : Nat) (G : Xn → Sf) : NL.Wc := fun a cls dd => fun D σ H => ∃ (d : Addr) (e : Xn), cls = .ref (He.ga X.K e.cls) ∧ dd = some d ∧ XfC X.K (He.ga X.K e.cls) ∧ PySem.W.findIn X.K (.ref (He.ga X.K e.cls)) fl = some none ∧ SF X.K (c.xcAt i a d e.cls fl) noWx (G e) D σ H
inductive HdQ (X : Cx) (c : Cf) : List ExceptHandler → List (Value × NL.Wc) → List Hx → Prop
  | nil : HdQ X c [] [] []
  | one {x : Str} {cv : Value} {m : List (Str × Bool)} {G : Sf} {b₀ : Stmt} {suite : List Stmt} {np q0 : Pos} {hds : List ExceptHandler} {l : List (Value × NL.Wc)} {hs : List Hx} (hm : ExO X.K cv m) (hc : Names X x cv)
      (hsu : ∀ (a : Addr) (o0 : Obj) (pn : List (Addr × Obj)), PSs (X.suite a ((a, o0) :: pn)) (b₀ :: suite) (SF X.K c noWx G)) (r : HdQ X c hds l hs) :
      HdQ X c (.ExceptHandler (some (.Name x np)) none (b₀ :: suite) q0 :: hds) ((cv, fun _ _ _ => SF X.K c noWx G) :: l) (.one m G :: hs)
  | named {x n : Str} {fl : Str} {i : Nat} {cv : Value} {m : List (Str × Bool)} {G : Xn → Sf} {b₀ : Stmt} {suite : List Stmt} {np q0 : Pos} {hds : List ExceptHandler} {l : List (Value × NL.Wc)} {hs : List Hx} (hm : ExT X.K cv fl m) (hc : Names X x cv) (hi : X.N[i]? = some n) (hln : X.env.kindOf n = some .local)
      (hsu : ∀ (a d : Addr) (o0 : Obj) (e : Xn) (pn : List (Addr × Obj)), Zc (.ref (He.ga X.K e.cls)) (some d) o0 → (∃ vs, o0.data = .fields vs) → XfC X.K (He.ga X.K e.cls) → PySem.W.findIn X.K (.ref (He.ga X.K e.cls)) fl = some none → PSs (X.suite a ((a, o0) :: pn)) (b₀ :: suite) (SF X.K (c.xcAt i a d e.cls fl) noWx (G e)))
      (hsh : c.sh i = .fz) (hp : c.pr i = false) (r : HdQ X c hds l hs) :
      HdQ X c (.ExceptHandler (some (.Name x np)) (some n) (b₀ :: suite) q0 :: hds) ((cv, NL.asW i (tsAs X c fl i G)) :: l) (.as m fl i G :: hs)
section
variable {X : Cx} {c : Cf} {Wx : WX} {hds : List ExceptHandler} {l : List (Value × NL.Wc)} {hs : List Hx} {W : Addr → Prop} {Y : List Addr}
theorem HdQ.a (h : HdQ X c hds l hs) : NL.HdA X hds l := by
  induction h with
  | nil => exact .nil
  | one hm hc hsu r ih => exact .one hc (fun a oe cls dd pn _ _ => hsu a oe pn) ih
  | named hm hc hi hln hsu hsh hp r ih =>
    refine .named hc hi hln (fun a oe cls dd pn hz hv => ⟨fun pins s σ H D I h => ?_⟩) ih
    obtain ⟨d, e, rfl, rfl, h1, h2, h⟩ := h
    exact (hsu a d oe e pn hz hv h1 h2).run pins s σ H D I h
variable {body orelse : List Stmt} {h₀ : ExceptHandler} {pos : Pos} {F E : Sf} {K : PySem.W.Frag}
end
end NQ
namespace NQ
open PySem L2
/-! ### in a clause with a name: isinstance of the caught exception -/
def KtT (K : PySem.W.Frag) (cv : Value) : List (Str × Bool) → Prop
  | [] => True
  | (x, b) :: r => ExcC K (He.ga K x) ∧ PySem.W.kitOne K (.ref (He.ga K x)) cv = some b ∧ KtT K cv r
theorem KtT.at {K : PySem.W.Frag} {cv : Value} : ∀ {l : List (Str × Bool)} {x : Str} {b : Bool}, KtT K cv l → l.lookup x = some b → ExcC K (He.ga K x) ∧ PySem.W.kitOne K (.ref (He.ga K x)) cv = some b
  | [], _, _, _, h => by simp at h
  | (y, d) :: r, x, b, ⟨h1, h2, h3⟩, e => by
    rw [List.lookup_cons] at e
    split at e
    · rename_i q
      cases e
      rw [eq_of_beq q]
      exact ⟨h1, h2⟩
    · exact KtT.at h3 e
def isXq (i : Nat) (mk : List (Str × Bool)) (cl : Str) : Qf := fun δ => match dAt δ i, mk.lookup cl with
  | some _, some b => some (.bl b)
  | _, _ => none
section
variable {X : Cx} {K : PySem.W.Frag} {sh : Nat → Sh} {a d : Addr} {oe : Obj} {pn : List (Addr × Obj)} {cl fl y : Str} {o ce : Expr} {p pos : Pos} {mk : List (Str × Bool)}
end
end NQ
namespace NQ
open PySem L2
/-! ### walking rules of the younger combinators -/
section
variable {F G : Sf} {f g h : Dl → Rs} {u v w : Qf} {δ δ2 : Dl} {i j : Nat} {op op' : Op} {os : List Opd} {x y t : T} {ts us : List T} {gp : Gf} {its : Il} {cl : Str} {πf : Pf}
variable {N B C : Dl → Prop} {R : T → Dl → Prop} {E : Xn → Dl → Prop} {Q : T → Dl → Prop} {q : T → Prop} {QL : List T → Dl → Prop}
theorem ws_par2 (z : We (f δ) (fun t δ1 => We (g δ1) (fun u δ2 => Sd (i < δ2.length ∧ j < δ2.length) (Nm ((δ2.set i (some t)).set j (some u)) N)) E) E) : Ws (sPar2 i j f g δ) N B C R E := by
  unfold sPar2
  rcases we_c z with ⟨t0, d0, e0, z⟩ | ⟨t0, d0, e0, z⟩ <;> simp only [e0]
  rotate_left
  · exact z
  rcases we_c z with ⟨t1, d1, e1, hl, z⟩ | ⟨t1, d1, e1, z⟩ <;> simp only [e1]
  · simp only [hl, and_self, if_true]; exact z
  · exact z
/-- a path and what lies there -/
def Pw (r : Option (List Pt)) (P : List Pt → Prop) : Prop := ∃ π, r = some π ∧ P π
theorem pw_nil {P : List Pt → Prop} (z : P []) : Pw (pNil δ) P := ⟨_, rfl, z⟩
theorem pw_fld {c fl : Str} {P : List Pt → Prop} (z : Pw (πf δ) fun π => P (π ++ [.fld c fl])) : Pw (pFld πf c fl δ) P := by
  obtain ⟨π, e, z⟩ := z
  exact ⟨_, by unfold pFld; rw [e], z⟩
theorem pw_ix {P : List Pt → Prop} (z : Pw (πf δ) fun π => Wq (u δ) fun k => Is k T.int fun n => P (π ++ [.ix n])) : Pw (pIx πf u δ) P := by
  obtain ⟨π, e, z⟩ := z
  obtain ⟨k, e1, n, rfl, z⟩ := wq_ex z
  exact ⟨_, by unfold pIx; rw [e, e1], z⟩
theorem wq_ePq (z : Pw (πf δ) fun π => At δ i fun t => So (getP t π) q) : Wq (ePq i πf δ) q := by
  obtain ⟨π, e, t, e1, u, e2, z⟩ := z
  unfold ePq
  rw [e, e1]
  simp only [e2]
  exact z
theorem ws_mov (z : Pw (πf δ) fun π => At δ i fun t => So (getP t π) fun t' => Sd (j < δ.length) (Nm ((δ.set i none).set j (some t')) N)) : Ws (sMov i j πf δ) N B C R E := by
  obtain ⟨π, e, t, e1, u, e2, hl, z⟩ := z
  unfold sMov
  rw [e, e1]
  simp only [e2, hl, if_true]
  exact z
def Bk (i j : Nat) (n : Nat) (π : List Pt) (t : T) (P : Dl → Prop) : Dl → Prop := fun δ' => At δ' j fun w => So (setP t π w) fun t2 => Sd (i < δ'.length ∧ j < n) (Nm ((δ'.set j none).set i (some t2)) P)
theorem ws_bor (z : Pw (πf δ) fun π => At δ i fun t => So (getP t π) fun t' => Nm ((δ.set i none).set j (some t')) fun δ1 => Ws (G δ1) (Bk i j δ.length π t N) (Bk i j δ.length π t B) (Bk i j δ.length π t C) (fun r => Bk i j δ.length π t (R r)) (fun e => Bk i j δ.length π t (E e))) : Ws (sBor i j πf G δ) N B C R E := by
  obtain ⟨π, e, t, e1, t', e2, z⟩ := z
  unfold Nm at z
  try dsimp only at z
  unfold sBor
  rw [e, e1]
  simp only [e2]
  obtain ⟨fl, δ', e3, z⟩ := ws_c z
  simp only [e3]
  have key : ∀ {P : Dl → Prop}, Bk i j δ.length π t P δ' → ∃ w t2, dAt δ' j = some w ∧ setP t π w = some t2 ∧ (i < δ'.length ∧ j < δ.length) ∧ P ((δ'.set j none).set i (some t2)) := fun ⟨w, a1, t2, a2, a3, a4⟩ => ⟨w, t2, a1, a2, a3, a4⟩
  cases fl with
  | nx => obtain ⟨w, t2, a1, a2, a3, a4⟩ := key z; simp only [a1, a2, a3, and_self, if_true]; exact a4
  | brk => obtain ⟨w, t2, a1, a2, a3, a4⟩ := key z; simp only [a1, a2, a3, and_self, if_true]; exact a4
  | cont => obtain ⟨w, t2, a1, a2, a3, a4⟩ := key z; simp only [a1, a2, a3, and_self, if_true]; exact a4
  | ret r => obtain ⟨w, t2, a1, a2, a3, a4⟩ := key (P := R r) z; simp only [a1, a2, a3, and_self, if_true]; exact a4
  | exc r => obtain ⟨w, t2, a1, a2, a3, a4⟩ := key (P := E r) z; simp only [a1, a2, a3, and_self, if_true]; exact a4
theorem bk_mk {n : Nat} {π : List Pt} {P : Dl → Prop} (z : At δ j fun w => So (setP t π w) fun t2 => Sd (i < δ.length ∧ j < n) (Nm ((δ.set j none).set i (some t2)) P)) : Bk i j n π t P δ := z
def enS : T → Option (List T)
  | .lst ts => some ts
  | .tup ts => some ts
  | .ctup ts => some ts
  | _ => none
theorem wi_en2 (z : We (f δ) (fun t δ' => So (enS t) fun ts => QL (enT ts) δ') E) : Wi (itEn2 f δ) QL E := by
  unfold itEn2
  rcases we_c z with ⟨t0, d0, e0, ts, e1, z⟩ | ⟨t0, d0, e0, z⟩ <;> simp only [e0]
  · cases t0 <;> first | cases e1 | skip
    all_goals exact z
  · exact z
theorem mkn {o : T} {r : List T} {P : T → Prop} (z : P o) : T.non = .non ∧ ∃ o' r', o :: r = o' :: r' ∧ P o' := ⟨rfl, o, r, rfl, z⟩
theorem mthF {m : Str} {fs : List Str} {P : Prop} (hm : m ∉ fs) (z : P) : ∃ fs' ts', T.ins cl fs ts = .ins cl fs' ts' ∧ m ∉ fs' ∧ P := ⟨fs, ts, rfl, hm, z⟩
theorem insAt_c {cl : Str} {j : Nat} {js : List Nat} {ts : List T} {fs : List Str} {us : List T} (h : ts[j]? = some (.ins cl fs us)) (z : insAt cl js ts = true) : insAt cl (j :: js) ts = true := by
  unfold insAt
  rw [h]
  simp only [decide_true, Bool.true_and]
  exact z
theorem wi_z (z : We (f δ) (fun t δ1 => We (g δ1) (fun u δ' => So (zipT t u) fun ts => QL ts δ') E) E) : Wi (itZ f g δ) QL E := by
  unfold itZ
  rcases we_c z with ⟨t0, d0, e0, z⟩ | ⟨t0, d0, e0, z⟩ <;> simp only [e0]
  rotate_left
  · exact z
  rcases we_c z with ⟨t1, d1, e1, ts, e2, z⟩ | ⟨t1, d1, e1, z⟩ <;> simp only [e1]
  · simp only [e2]; exact z
  · exact z
theorem we_sp {js : List Nat} {ps : List Sh} {Ff : List T → Fo} (z : Wa os δ (fun ts δ' => Sd (insAt cl js ts = true) (Wf (Ff ts) (fun t l => Sd (l.length = ps.length) (Nm (wb ps (skO os) l δ') (Q t))) fun e l => Sd (l.length = ps.length) (Nm (wb ps (skO os) l δ') (E e)))) E) : We (fSp cl js ps Ff os δ) Q E := by
  unfold fSp
  rcases wa_c z with ⟨l0, d0, ts0, e1, e2, h, z⟩ | ⟨t0, d0, e1, z⟩
  · simp only [e1, e2, h, if_true]
    rcases wf_or z with ⟨t, l, e3, h, z⟩ | ⟨t, l, e3, h, z⟩
    · simp only [e3, h, if_true]; exact z
    · simp only [e3, h, if_true]; exact z
  · simp only [e1]; exact z
theorem ws_setO {ps : List Sh} {Ff : List T → Fo} (z : We (f δ) (fun t δ1 => At δ1 i fun o => Wq (u δ1) fun k => Sd (∃ fs us, o = .ins cl fs us) (Wf (Ff [o, k, t]) (fun r l => Sd (l.length = ps.length) (So l.head? fun o' => Nm (δ1.set i (some o')) N)) fun e l => Sd (l.length = ps.length) (So l.head? fun o' => Nm (δ1.set i (some o')) (E e)))) E) : Ws (sSetO cl ps Ff i u f δ) N B C R E := by
  unfold sSetO
  rcases we_c z with ⟨t0, d0, e0, o, e1, z⟩ | ⟨t0, d0, e0, z⟩ <;> simp only [e0]
  rotate_left
  · exact z
  obtain ⟨k, e2, ⟨fs, us, rfl⟩, z⟩ := wq_ex z
  simp only [e1, e2, if_true]
  rcases wf_or z with ⟨t, l, e3, hl, o', ho, z⟩ | ⟨t, l, e3, hl, o', ho, z⟩
  · cases l with
    | nil => cases ho
    | cons a r => cases ho; simp only [e3, hl, if_true]; exact z
  · cases l with
    | nil => cases ho
    | cons a r => cases ho; simp only [e3, hl, if_true]; exact z
theorem wq_notV (z : Wq (u δ) fun t => Wt (truW t) fun b => q (.bl (!b))) : Wq (notV u δ) q := by
  unfold notV
  obtain ⟨t, e, z⟩ := wq_ex z
  obtain ⟨b, e1, z⟩ := wt_ex z
  simp only [e, e1]; exact z
theorem we_notW (z : We (f δ) (fun t δ' => Wt (truW t) fun b => Q (.bl (!b)) δ') E) : We (notW f δ) Q E := by
  unfold notW
  rcases we_c z with ⟨t0, d0, e0, z⟩ | ⟨t0, d0, e0, z⟩ <;> simp only [e0]
  · obtain ⟨b, e1, z⟩ := wt_ex z
    simp only [e1]; exact z
  · exact z
theorem we_tupRg (z : We (f δ) (fun t δ' => Is t T.int fun n => Sd (0 ≤ n ∧ n ≤ 16777216) (Q (.tup (rgT 0 n)) δ')) E) : We (tupRg f δ) Q E := by
  unfold tupRg
  rcases we_c z with ⟨t0, d0, e0, z⟩ | ⟨t0, d0, e0, z⟩ <;> simp only [e0]
  · obtain ⟨n, rfl, hl, z⟩ := z
    simp only [hl, and_self, if_true]; exact z
  · exact z
theorem we_lstRg (z : We (f δ) (fun t δ' => Is t T.int fun n => Sd (0 ≤ n ∧ n ≤ 16777216) (Q (.lst (rgT 0 n)) δ')) E) : We (lstRg f δ) Q E := by
  unfold lstRg
  rcases we_c z with ⟨t0, d0, e0, z⟩ | ⟨t0, d0, e0, z⟩ <;> simp only [e0]
  · obtain ⟨n, rfl, hl, z⟩ := z
    simp only [hl, and_self, if_true]; exact z
  · exact z
theorem we_ch (z : We (f δ) (fun x δ1 => We (g δ1) (fun y δ2 => Wq (op [x, y]) fun c => Is c T.bl fun k => if k = true then Wq (w δ2) (fun z => Wq (op' [y, z]) fun r => Q r δ2) else Q (.bl false) δ2) E) E) : We (chE op op' f g w δ) Q E := by
  unfold chE
  rcases we_c z with ⟨t0, d0, e0, z⟩ | ⟨t0, d0, e0, z⟩ <;> simp only [e0]
  rotate_left
  · exact z
  rcases we_c z with ⟨t1, d1, e1, z⟩ | ⟨t1, d1, e1, z⟩ <;> simp only [e1]
  rotate_left
  · exact z
  obtain ⟨c, e2, k, rfl, z⟩ := wq_ex z
  simp only [e2]
  cases k
  · exact z
  · rw [if_pos rfl] at z
    obtain ⟨a, e3, z⟩ := wq_ex z
    obtain ⟨r, e4, z⟩ := wq_ex z
    simp only [e3, e4]; exact z
theorem we_makeK {Ff : List T → Fo} {gT : List T → List T} (z : Wa os δ (fun us δ' => Wf (Ff (.ins cl [] [] :: gT us)) (fun t l => t = .non ∧ ∃ o r, l = o :: r ∧ Q o δ') fun e _ => E e δ') E) : We (fMakeK cl Ff gT os δ) Q E := by
  unfold fMakeK
  rcases wa_c z with ⟨l0, d0, ts0, e1, e2, z⟩ | ⟨t0, d0, e1, z⟩
  · simp only [e1, e2]
    rcases wf_or z with ⟨t, l, e3, rfl, o, r, rfl, z⟩ | ⟨t, l, e3, z⟩
    · simp only [e3]; exact z
    · simp only [e3]; exact z
  · simp only [e1]; exact z
theorem we_cm {ps : List Sh} {Ff : List T → Fo} (z : Wq (u δ) fun t => Sd (t = .gl cl) (We (fCall ps Ff (.val (qE u) :: os) δ) Q E)) : We (fCM cl ps Ff u os δ) Q E := by
  unfold fCM
  obtain ⟨t, e, rfl, z⟩ := wq_ex z
  simp only [e, if_true]; exact z
theorem ws_forK (z : We (f δ) (fun t δ' => So (itK t) fun ts => Ws (forM ts gp F δ') N B C R fun _ _ => False) E) : Ws (sForK f gp F δ) N B C R E := by
  unfold sForK
  rcases we_c z with ⟨t0, d0, e0, ts, e1, z⟩ | ⟨t0, d0, e0, z⟩ <;> simp only [e0]
  rotate_left
  · exact z
  simp only [e1]
  obtain ⟨fl, δ', e2, z⟩ := ws_c z
  rw [e2]
  cases fl <;> first | exact z | exact z.elim
def Wo (os : List (Sh × Oo)) (δ : Dl) (QL : List T → Dl → Prop) (E : Xn → Dl → Prop) : Prop := Wi (runO os δ) QL E
theorem wo_nil (z : QL [] δ) : Wo [] δ QL E := z
theorem wo_new {s : Sh} {r : List (Sh × Oo)} (z : We (f δ) (fun t δ1 => Wo r δ1 (fun ts δ' => QL (t :: ts) δ') E) E) : Wo ((s, .new f) :: r) δ QL E := by
  unfold Wo runO
  rcases we_c z with ⟨t0, d0, e0, z⟩ | ⟨t0, d0, e0, z⟩ <;> simp only [e0]
  rotate_left
  · exact z
  rcases wi_c z with ⟨t1, d1, e1, z⟩ | ⟨t1, d1, e1, z⟩ <;> simp only [e1] <;> exact z
theorem wo_mov {s : Sh} {r : List (Sh × Oo)} (e : dAt δ i = some x) (z : Nm (δ.set i none) fun δ1 => Wo r δ1 (fun ts δ' => QL (x :: ts) δ') E) : Wo ((s, .mov i) :: r) δ QL E := by
  unfold Nm at z
  try dsimp only at z
  unfold Wo runO
  simp only [e]
  rcases wi_c z with ⟨t1, d1, e1, z⟩ | ⟨t1, d1, e1, z⟩ <;> simp only [e1] <;> exact z
theorem we_lstO {os : List (Sh × Oo)} (z : Wo os δ (fun ts δ' => Sd (ts.length ≤ 16777216) (Q (.lst ts) δ')) E) : We (fLstO os δ) Q E := by
  unfold fLstO
  rcases wi_c z with ⟨t1, d1, e1, hl, z⟩ | ⟨t1, d1, e1, z⟩ <;> simp only [e1]
  · rw [if_pos (by rw [sz_eq]; exact hl)]; exact z
  · exact z
theorem we_callT {Ff : List T → Fo} (z : We (f δ) (fun t δ' => Wf (Ff [t]) (fun r _ => Q r δ') fun e _ => E e δ') E) : We (fCallT Ff f δ) Q E := by
  unfold fCallT
  rcases we_c z with ⟨t0, d0, e0, z⟩ | ⟨t0, d0, e0, z⟩ <;> simp only [e0]
  rotate_left
  · exact z
  rcases wf_or z with ⟨t, l, e3, z⟩ | ⟨t, l, e3, z⟩ <;> simp only [e3] <;> exact z
theorem ws_tryA {hs : List Hx} (z : Ws (F δ) (fun δ' => Ws (G δ') N B C R E) B C R fun e δ' => Ws (hdM hs e δ') N B C R E) : Ws (sTryA hs F G δ) N B C R E := by
  unfold sTryA
  obtain ⟨fl, δ', e, z⟩ := ws_c z
  rw [e]
  cases fl <;> exact z
theorem ws_hdN {e : Xn} (z : E e δ) : Ws (hdM [] e δ) N B C R E := z
theorem ws_hd1 {e : Xn} {m : List (Str × Bool)} {H : Sf} {hs : List Hx} (z : So (m.lookup e.cls) fun b => if b = true then Ws (H δ) N B C R fun _ _ => False else Ws (hdM hs e δ) N B C R E) : Ws (hdM (.one m H :: hs) e δ) N B C R E := by
  obtain ⟨b, e1, z⟩ := z
  unfold hdM
  simp only [e1]
  cases b with
  | false => exact z
  | true =>
    rw [if_pos rfl] at z
    obtain ⟨fl, δ', e2, z⟩ := ws_c z
    simp only [e2]
    cases fl <;> first | exact z | exact z.elim
theorem ws_hdA {e : Xn} {m : List (Str × Bool)} {fl : Str} {H : Xn → Sf} {hs : List Hx} (z : So (m.lookup e.cls) fun b => if b = true then Sd (e.fld = fl ∧ i < δ.length) (Nm (δ.set i (some e.val)) fun δ2 => Ws (H e δ2) (fun δ2 => Nm (δ2.set i none) N) (fun δ2 => Nm (δ2.set i none) B) (fun δ2 => Nm (δ2.set i none) C) (fun t δ2 => Nm (δ2.set i none) (R t)) fun _ _ => False) else Ws (hdM hs e δ) N B C R E) : Ws (hdM (.as m fl i H :: hs) e δ) N B C R E := by
  obtain ⟨b, e1, z⟩ := z
  unfold hdM
  simp only [e1]
  cases b with
  | false => exact z
  | true =>
    rw [if_pos rfl] at z
    obtain ⟨h2, z⟩ := z
    unfold Nm at z
    try dsimp only at z
    simp only [h2, and_self, if_true]
    obtain ⟨fl', δ', e2, z⟩ := ws_c z
    simp only [e2]
    cases fl' <;> first | exact z | exact z.elim
theorem wq_isX {mk : List (Str × Bool)} {c : Str} (z : At δ i fun _ => So (mk.lookup c) fun b => q (.bl b)) : Wq (isXq i mk c δ) q := by
  obtain ⟨t, e, b, e1, z⟩ := z
  unfold isXq
  rw [e, e1]
  exact z
theorem wo_ix_dt {ks : List (List Key)} {kk : List Key} (h : keysT us = some kk) (e : lookT ks ts kk = some y) (z : q y) : Wq (ixA [.dit ks ts, .tup us]) q := by
  have e1 : ixR [.dit ks ts, .tup us] = none := rfl
  have e2 : ixA [.dit ks ts, .tup us] = some y := by
    simp only [ixA, altT, ixR, ixD, dgetR, dgetD, dlook, h, e]
    cases hs : y.isS <;> simp [hs]
  rw [e2]; exact z
end
end NQ
namespace NQ
open PySem L2
/-- a list told by a function -/
def rg {α : Type} (n : Nat) (f : Nat → α) : List α := (List.range n).map f
section
variable {α β : Type} {n i : Nat} {f g : Nat → α}
theorem rg_len : (rg n f).length = n := by unfold rg; simp
end
theorem eqB_bb {a b : Bool} : eqB (.bl a) (.bl b) = some (decide (a = b)) := by cases a <;> cases b <;> decide +kernel
theorem atI2 {α : Type} {a b c : α} {r : List α} : atI (a :: b :: c :: r) 2 = some c := (atI_nat (n := 2) (by simp)).trans rfl
theorem atI3 {α : Type} {a b c d : α} {r : List α} : atI (a :: b :: c :: d :: r) 3 = some d := (atI_nat (n := 3) (by simp)).trans rfl
theorem atI4 {α : Type} {a b c d e : α} {r : List α} : atI (a :: b :: c :: d :: e :: r) 4 = some e := (atI_nat (n := 4) (by simp)).trans rfl
end NQ
namespace NL
open PySem PySem.Spec PyProof.Rows L2
/-! ### a == b by an own class's __eq__ -/
section
variable {X : Cx} {k : Nat} {C : Addr} {a b : Expr} {ta tb : TE} {pos : Pos} {ps : List Str} {sp : Sp} {W : WX}
end
end NL
namespace NQ
open PySem L2
section
variable {X : Cx} {K : PySem.W.Frag} {sh : Nat → Sh} {Wx : WX} {ps : List Sh} {rs : Sh} {F : List T → Fo} {o1 o2 : Opd} {cl : Str} {k : Nat} {o i a b e : Expr} {params : List Str} {pos : Pos}
end
end NQ
namespace NQ
open PySem L2
/-! ### tuples joined, both frozen -/
def addU : Op
  | [.tup xs, .tup ys] => if xs.length + ys.length ≤ sizeLine then some (.tup (xs ++ ys)) else none
  | _ => none
section
variable {X : Cx} {K : PySem.W.Frag} {sh : Nat → Sh} {Wx : WX} {e a b : Expr} {es : List Expr} {r : List V → Hp → VK → Prop} {op : Op} {l : List (Md × Qf)} {pos : Pos}
theorem wo_addU {xs ys : List T} {q : T → Prop} (h : xs.length + ys.length ≤ 16777216) (z : q (.tup (xs ++ ys))) : Wq (addU [.tup xs, .tup ys]) q := by
  have e : addU [.tup xs, .tup ys] = some (.tup (xs ++ ys)) := by
    show (if xs.length + ys.length ≤ sizeLine then some (T.tup (xs ++ ys)) else none) = _
    rw [if_pos (by rw [sz_eq]; exact h)]
  rw [e]; exact z
end
end NQ
namespace NQ
open PySem L2
/-! ### the kind of a wish, asked before its rules are tried -/
theorem g_ws {r : Ss} {N B C : Dl → Prop} {R : T → Dl → Prop} {E : Xn → Dl → Prop} (h : Ws r N B C R E) : Ws r N B C R E := h
theorem g_we {r : Rs} {Q : T → Dl → Prop} {E : Xn → Dl → Prop} (h : We r Q E) : We r Q E := h
theorem g_wq {r : Option T} {Q : T → Prop} (h : Wq r Q) : Wq r Q := h
theorem g_wqo {op : Op} {ts : List T} {Q : T → Prop} (h : Wq (op ts) Q) : Wq (op ts) Q := h
theorem g_wt {r : Option Bool} {Q : Bool → Prop} (h : Wt r Q) : Wt r Q := h
end NQ
namespace NL
open PySem PySem.Spec PyProof.Rows L2
/-! ### defs that are promised only where no repr runs around them: these may call repr -/
structure FnOkG (P : Program) (w : World) (K : PySem.W.Frag) (mg : Str → Option Value) (base : Heap) (CX : CXT) (k : Nat) (f : Addr) (fd : FuncData) (ps : List Str) (sp : Sp) : Prop where
  len : ∀ vs H Q E, sp vs H Q E → vs.length = ps.length
  run : ∀ (A : Around) (outer : List Env) (s : Shared) (H : Hp) (args : Args) (us : List Value) (vs : List V) (Q : VK) (E : XK), A.guards = some [] → Room k A → Env0 P w K mg base A outer s H → BindsTo s fd args (ps.zip us) → Vals vs us → sp vs H Q E →
    codeAny (model P w) A (.call (.ref f) args) (CR CX outer P w H s Q E) s
theorem FunD.okG {P : Program} {w : World} {K : PySem.W.Frag} {mg : Str → Option Value} {base : Heap} {x qual : Str} {params : Arguments} {body : List Stmt} {scope : Scope} {dvs : List V} {kws : List (Str × V)} {f : Addr} {fd : FuncData} {CX : CXT} {N ps : List Str} {k : Nat} {sp : Sp}
    (F : FunD K x qual params body scope dvs kws f fd) (S : FnScope N ps scope) (len : ∀ vs H Q E, sp vs H Q E → vs.length = ps.length)
    (hbody : ∀ (cdv : Value) (A : Around) (outer : List Env) (s : Shared) (H : Hp) (vs : List V) (Q : VK) (E : XK), A.guards = some [] → Room k (A.deeper (envOfC qual scope s.heap.objs.size f cdv)) → sp vs H Q E →
      ∃ t, PSs (cxOf CX P w K mg base N qual scope f cdv A outer s H E) body t ∧ t { nx := fun _ H' => Q .non H', rt := Q } (start N vs) H) : FnOkG P w K mg base CX (k + 1) f fd ps sp := by
  obtain ⟨oc, od, dV, kV, doc, pm, an, cdv, ct, osl, rfl, lk, hcd, _, _⟩ := F.ex
  refine ⟨len, fun A outer s H args us vs Q E hG hr e0 hb r h => ?_⟩
  have hl : vs.length = ps.length := len _ _ _ _ h
  refine StX.run_bnd lk hcd S hr e0 (G := fun xs H2 => xs = vs ∧ H2 = H) (fun A' Ex Q' hq => hb _ _ _ _ (hq s H vs us e0 Un.refl rfl (fun _ _ z => z) r hl ⟨rfl, rfl⟩)) fun s2 H2 xs ⟨ex, eH⟩ hr' => ?_
  subst ex eH
  exact hbody cdv A outer s2 _ _ Q E hG hr' h
structure CalG (P : Program) (w : World) (K : PySem.W.Frag) (mg : Str → Option Value) (base : Heap) (k : Nat) (x : Str) (ps : List Str) (sp : Sp) : Prop where
  ex : ∃ f fd, mg x = some (.ref f) ∧ PySem.W.keepIn K (.ref f) = true ∧ Binds K fd ps [] ∧ FnOkG P w K mg base (L2.CX P w) k f fd ps sp
section
variable {X : Cx} {W : WX} {k : Nat} {ps : List Str} {sp : Sp} {x : Str} {e : Expr} {es : List Expr} {t : TA} {p pos : Pos}
theorem q_callG (C : CalG X.prog X.w X.K X.mg X.base k x ps sp) (hG : X.A.guards = some []) (tk : Takes X W) (hr : Room k X.A) (ha : PA X (e :: es) t) (hg : Gl X x := by rfl) (hdb : (x == ("__debug__" : Str)) = false := by decide)
    (he : starEach (e :: es) X.env = (false, eval e X.env) :: starEach es X.env := by rfl) (hpl : (backTo pos (starEach es X.env)).any (·.1) = false := by rfl) :
    PE X (.Call (.Name x p) (e :: es) [] pos) (tCallS sp (WE W) t) := by
  obtain ⟨f, fd, h1, h2, h3, F⟩ := C.ex
  refine ⟨fun pins s σ H Q I h => ?_⟩
  refine wpAny_Call_Name_kw (ld_glob I hg h1 ?_ hdb)
  refine PySem.W.callWith_K (h₀ := X.base) I.ok.mod.kin h2 (thn (ha.run pos pins s σ H _ I h) fun us s1 ⟨vs, H1, I1, r, q⟩ => ⟨I1.kIn, ?_⟩) he hpl
  have hl : us.length = ps.length := by rw [← r.length]; exact F.len _ _ _ _ q
  have b := h3 s1 us I1.kIn (by rw [List.append_nil]; exact hl)
  rw [List.append_nil] at b
  refine wpAny_call (codeAny_mono (F.run X.A X.stack s1 H1 ⟨us, []⟩ us vs Q (WE W σ) hG hr I1.env0 b r q) fun r s' hq => ?_)
  cases r with
  | error e => exact passAt tk σ pins H1 s1 e s' I1 hq
  | ok fl =>
    cases fl with
    | ret u => exact I1.after hq
    | next => exact False.elim hq
    | brk => exact False.elim hq
    | cont => exact False.elim hq
end
/-! ### repr of data -/
/-- xs.pop(i) -/
theorem m_pop {X : Cx} : MtR X "list.pop" rPopAt := mt_popAt
/-! ### the end for such a law -/
end NL
namespace NQ
open PySem L2
/-! ### repr of data -/
section
variable {X : Cx} {K : PySem.W.Frag} {a b : Expr} {p pos : Pos}
end
/-! ### calls of defs that are promised only where no repr runs around them -/
section
variable {X : Cx} {K : PySem.W.Frag} {sh : Nat → Sh} {Wx : WX} {ps : List Sh} {rs : Sh} {F : List T → Fo} {os : List Opd} {k : Nat} {x : Str} {e : Expr} {es : List Expr} {params : List Str} {p pos : Pos}
end
end NQ
namespace NQ
open PySem L2 StX
/-! ### a, b, *rest = a list -/
section
variable {X : Cx} {K : PySem.W.Frag} {c : Cf} {Wx : WX} {e : Expr} {es : List Expr} {pos tp p : Pos} {f : Dl → Rs} {g : Gf} {gs : Gfs} {ns : List Nat} {k0 : Nat}
end
/-! ### [a, b, *xs] -/
inductive PSt (X : Cx) : List Expr → List TE → TE → Prop
  | last {e : Expr} {t : TE} {p : Pos} : PE X e t → starEach [.Starred e p] X.env = (true, eval e X.env) :: starEach [] X.env → PSt X [.Starred e p] [] t
  | cons {e : Expr} {es : List Expr} {t : TE} {ts : List TE} {u : TE} : PE X e t → PSt X es ts u → starEach (e :: es) X.env = (false, eval e X.env) :: starEach es X.env → PSt X (e :: es) (t :: ts) u
theorem PSt.l {X : Cx} {e : Expr} {t : TE} {p : Pos} (h : PE X e t) (hs : starEach [.Starred e p] X.env = (true, eval e X.env) :: starEach [] X.env := by rfl) : PSt X [.Starred e p] [] t := .last h hs
theorem PSt.c {X : Cx} {e : Expr} {es : List Expr} {t : TE} {ts : List TE} {u : TE} (h : PE X e t) (r : PSt X es ts u) (hs : starEach (e :: es) X.env = (false, eval e X.env) :: starEach es X.env := by rfl) : PSt X (e :: es) (t :: ts) u := .cons h r hs
def tAllS (K : PySem.W.Frag) : List TE → TE → TA
  | [], u => tStar K u tNil
  | t :: ts, u => tCons t (tAllS K ts u)
theorem PSt.pa {X : Cx} : ∀ {es : List Expr} {ts : List TE} {u : TE}, PSt X es ts u → PA X es (tAllS X.K ts u)
  | _, _, _, .last h hs => pa_star h pa_nil hs
  | _, _, _, .cons h r hs => pa_cons h r.pa hs
section
variable {X : Cx} {K : PySem.W.Frag} {sh : Nat → Sh} {Wx : WX} {es : List Expr} {os : List Opd} {f : Dl → Rs} {pos : Pos}
theorem DfL.snoc {G : Addr → Prop} {H : Hp} {z : T} : ∀ {ts : List T} {xs : List V}, DfL K G H xs (ts ++ [z]) → ∃ ys v, xs = ys ++ [v] ∧ DfL K G H ys ts ∧ Df K G H v z
  | [], _, .cons h .nil => ⟨[], _, rfl, .nil, h⟩
  | t :: ts, _, .cons h r => by
    obtain ⟨ys, v, rfl, h1, h2⟩ := DfL.snoc r
    exact ⟨_ :: ys, v, rfl, .cons h h1, h2⟩
end
end NQ
namespace NQ
open PySem L2 StX
/-! ### walking over star targets and star displays -/
/-! ### repr of data: small enough, and text -/
theorem digitChar_ok {c : Nat} : ∀ x ∈ (Nat.toDigits 16 c).map Char.toNat, x < 0x110000 := fun x hx => by
  obtain ⟨ch, _, rfl⟩ := List.mem_map.mp hx
  have h := ch.valid
  show ch.val.toNat < 0x110000
  rcases h with h | h
  · exact Nat.lt_trans h (by decide)
  · exact h.2
theorem reprChar_sok {q c : Nat} (hc : c < 0x110000) : ∀ x ∈ PySem.Builtin.Str.reprChar q c, x < 0x110000 := by
  intro x hx
  have hd := @digitChar_ok c
  have hhex : ∀ w : Nat, x ∈ (List.replicate (w - ((Nat.toDigits 16 c).map Char.toNat).length) 48 ++ (Nat.toDigits 16 c).map Char.toNat) → x < 0x110000 := fun w h => by
    rcases List.mem_append.mp h with h | h
    · rw [List.eq_of_mem_replicate h]; decide
    · exact hd x h
  unfold PySem.Builtin.Str.reprChar at hx
  dsimp only at hx
  split at hx
  · simp only [List.mem_cons, List.not_mem_nil, or_false] at hx
    rcases hx with rfl | rfl
    · decide
    · exact hc
  split at hx
  · simp only [List.mem_cons, List.not_mem_nil, or_false] at hx
    rcases hx with rfl | rfl <;> decide
  split at hx
  · simp only [List.mem_cons, List.not_mem_nil, or_false] at hx
    rcases hx with rfl | rfl <;> decide
  split at hx
  · simp only [List.mem_cons, List.not_mem_nil, or_false] at hx
    rcases hx with rfl | rfl <;> decide
  split at hx
  · rw [List.mem_singleton.mp hx]; exact hc
  split at hx
  · rcases List.mem_append.mp hx with hx | hx
    · simp only [List.mem_cons, List.not_mem_nil, or_false] at hx
      rcases hx with rfl | rfl <;> decide
    · exact hhex _ hx
  split at hx
  · rcases List.mem_append.mp hx with hx | hx
    · simp only [List.mem_cons, List.not_mem_nil, or_false] at hx
      rcases hx with rfl | rfl <;> decide
    · exact hhex _ hx
  · rcases List.mem_append.mp hx with hx | hx
    · simp only [List.mem_cons, List.not_mem_nil, or_false] at hx
      rcases hx with rfl | rfl <;> decide
    · exact hhex _ hx
theorem fold_sok {q : Nat} : ∀ (l : List Nat) (acc : Array Nat), (∀ c ∈ l, c < 0x110000) → (∀ c ∈ acc.toList, c < 0x110000) → ∀ c ∈ (l.foldl (fun out c => out ++ (PySem.Builtin.Str.reprChar q c).toArray) acc).toList, c < 0x110000
  | [], acc, _, h => h
  | c :: r, acc, hl, h => by
    refine fold_sok r _ (fun d hd => hl d (List.mem_cons_of_mem _ hd)) fun d hd => ?_
    rw [Array.toList_append] at hd
    rcases List.mem_append.mp hd with hd | hd
    · exact h d hd
    · exact reprChar_sok (hl c (List.mem_cons_self ..)) d (by simpa using hd)
theorem reprText_sok {x : Str} (h : PyData.strOk x = true) : PyData.strOk (reprText x) = true := by
  refine sok_iff.mpr fun c hc => ?_
  have hq : reprQuote x < 0x110000 := by unfold reprQuote; split <;> decide
  unfold reprText at hc
  have hc : c ∈ ((x.cps.foldl (fun out c => out ++ (PySem.Builtin.Str.reprChar (reprQuote x) c).toArray) #[reprQuote x]).push (reprQuote x)).toList := hc
  rw [Array.toList_push] at hc
  rcases List.mem_append.mp hc with hc | hc
  · rw [← Array.foldl_toList] at hc
    exact fold_sok x.cps.toList _ (sok_iff.mp h) (fun d hd => by simp at hd; rw [hd]; exact hq) c hc
  · rw [List.mem_singleton.mp hc]; exact hq
/-- data whose repr may be taken: n deep, of the weight w -/
structure RpD (n w : Nat) (d : PyData) : Prop where
  sh : d.showable = true
  nd : d.hasDict = false
  dp : d.depth ≤ n
  lv : d.leavesShort 40 = true
  wt : d.weight ≤ w
  ok : PyData.strOk d.shown = true
theorem RpD.none {n w : Nat} : RpD n w .none := ⟨rfl, rfl, Nat.zero_le _, rfl, Nat.zero_le _, by rw [PyData.shown_none]; exact sok_of _⟩
theorem RpD.bool {n w : Nat} {b : Bool} : RpD n w (.bool b) := ⟨rfl, rfl, Nat.zero_le _, rfl, Nat.zero_le _, by rw [PyData.shown_bool]; cases b <;> exact sok_of _⟩
theorem RpD.int {n w : Nat} {i : Int} (h : i.natAbs.log2 < 100) (hl : (toString i : Str).length ≤ 40) (hw : i.natAbs.log2 + 1 ≤ w) : RpD n w (.int i) := ⟨by simp only [PyData.showable, decide_eq_true_eq]; omega, rfl, Nat.zero_le _, by simp only [PyData.leavesShort, decide_eq_true_eq, PyData.shown_int]; exact hl, by
  simp only [PyData.weight]
  split <;> omega, by rw [PyData.shown_int]; exact sok_of _⟩
theorem RpD.str {n w : Nat} {x : Str} (h : PyData.strOk x = true) (hw : x.length ≤ w) : RpD n w (.str x) := ⟨rfl, rfl, Nat.zero_le _, by
  simp only [PyData.leavesShort, List.all_eq_true, decide_eq_true_eq]
  exact fun c hc => Nat.lt_trans (sok_iff.mp h c hc) (by decide), hw, by rw [PyData.shown_str]; exact reprText_sok h⟩
theorem rpD_all {n w : Nat} : ∀ {ds : List PyData}, (∀ d ∈ ds, RpD n w d) → PyData.showableAll ds = true ∧ PyData.hasDictAll ds = false ∧ PyData.depthAll ds ≤ n ∧ PyData.leavesShortAll 40 ds = true ∧ PyData.weightAll ds ≤ ds.length * (w + 1) ∧ ∀ s ∈ PyData.shownAll ds, PyData.strOk s = true
  | [], _ => ⟨rfl, rfl, Nat.zero_le _, rfl, Nat.zero_le _, fun s hs => by rw [PyData.shownAll_nil] at hs; cases hs⟩
  | d :: ds, h => by
    obtain ⟨h1, h2, h3, h4, h5, h6⟩ := rpD_all (ds := ds) fun d hd => h d (List.mem_cons_of_mem _ hd)
    have k := h d (List.mem_cons_self ..)
    refine ⟨?_, ?_, ?_, ?_, ?_, ?_⟩
    · simp only [PyData.showableAll, k.sh, h1, Bool.and_true]
    · simp only [PyData.hasDictAll, k.nd, h2, Bool.or_false]
    · simp only [PyData.depthAll]; exact Nat.max_le.mpr ⟨k.dp, h3⟩
    · simp only [PyData.leavesShortAll, k.lv, h4, Bool.and_true]
    · simp only [PyData.weightAll, List.length_cons]
      have := k.wt
      rw [Nat.add_mul]
      omega
    · intro s hs
      rw [PyData.shownAll_cons] at hs
      rcases List.mem_cons.mp hs with rfl | hs
      · exact k.ok
      · exact h6 s hs
theorem RpD.tuple {n w w' : Nat} {ds : List PyData} (h : ∀ d ∈ ds, RpD n w d) (hw : ds.length * (w + 1) ≤ w') : RpD (n + 1) w' (.tuple ds) := by
  obtain ⟨h1, h2, h3, h4, h5, h6⟩ := rpD_all h
  refine ⟨by simp only [PyData.showable, h1], by simp only [PyData.hasDict, h2], by simp only [PyData.depth]; omega, by simp only [PyData.leavesShort, h4], by simp only [PyData.weight]; omega, ?_⟩
  rw [PyData.shown_tuple]
  refine sok_app (sok_app (sok_of _) (sok_join (sok_of _) h6)) ?_
  split <;> exact sok_of _
theorem RpD.list {n w w' : Nat} {ds : List PyData} (h : ∀ d ∈ ds, RpD n w d) (hw : ds.length * (w + 1) ≤ w') : RpD (n + 1) w' (.list ds) := by
  obtain ⟨h1, h2, h3, h4, h5, h6⟩ := rpD_all h
  refine ⟨by simp only [PyData.showable, h1], by simp only [PyData.hasDict, h2], by simp only [PyData.depth]; omega, by simp only [PyData.leavesShort, h4], by simp only [PyData.weight]; omega, ?_⟩
  rw [PyData.shown_list]
  exact sok_app (sok_app (sok_of _) (sok_join (sok_of _) h6)) (sok_of _)
def TR (n w : Nat) (t : T) : Prop := ∃ d, t.pd = some d ∧ RpD n w d
theorem TR.non {n w : Nat} : TR n w .non := ⟨_, rfl, .none⟩
theorem TR.bl {n w : Nat} {b : Bool} : TR n w (.bl b) := ⟨_, rfl, .bool⟩
theorem TR.int {n w : Nat} {i : Int} (h : i.natAbs.log2 < 100) (hl : (toString i : Str).length ≤ 40) (hw : i.natAbs.log2 + 1 ≤ w) : TR n w (.int i) := ⟨_, rfl, .int h hl hw⟩
theorem TR.str {n w : Nat} {x : Str} (h : PyData.strOk x = true) (hw : x.length ≤ w) : TR n w (.str x) := ⟨_, rfl, .str h hw⟩
theorem tr_all {n w : Nat} : ∀ {ts : List T}, (∀ t ∈ ts, TR n w t) → ∃ ds, pdL ts = some ds ∧ ds.length = ts.length ∧ ∀ d ∈ ds, RpD n w d
  | [], _ => ⟨[], by simp only [pdL], rfl, fun _ h => absurd h List.not_mem_nil⟩
  | t :: ts, h => by
    obtain ⟨ds, e, hl, hd⟩ := tr_all (ts := ts) fun t ht => h t (List.mem_cons_of_mem _ ht)
    obtain ⟨d, e1, h1⟩ := h t (List.mem_cons_self ..)
    refine ⟨d :: ds, by simp only [pdL, e1, e], by rw [List.length_cons, List.length_cons, hl], fun x hx => ?_⟩
    rcases List.mem_cons.mp hx with rfl | hx
    · exact h1
    · exact hd x hx
theorem TR.tup {n w w' : Nat} {ts : List T} (h : ∀ t ∈ ts, TR n w t) (hw : ts.length * (w + 1) ≤ w') : TR (n + 1) w' (.tup ts) := by
  obtain ⟨ds, e, hl, hd⟩ := tr_all h
  exact ⟨.tuple ds, by simp only [T.pd, e], .tuple hd (by rw [hl]; exact hw)⟩
theorem TR.lst {n w w' : Nat} {ts : List T} (h : ∀ t ∈ ts, TR n w t) (hw : ts.length * (w + 1) ≤ w') : TR (n + 1) w' (.lst ts) := by
  obtain ⟨ds, e, hl, hd⟩ := tr_all h
  exact ⟨.list ds, by simp only [T.pd, e], .list hd (by rw [hl]; exact hw)⟩
end NQ
namespace NL
open PySem PySem.Spec PyProof.Rows L2 LamX
/-! ### a def whose code object is told -/
def CodeIs (K : PySem.W.Frag) (f c : Addr) : Prop := ∃ (oc : Value) (od : Option Addr) (fd : FuncData) (osl : Array (Option Value)), K.lookup f = some ⟨oc, od, .func fd, osl⟩ ∧ fd.code = .ref c
theorem codeIs_eq {K : PySem.W.Frag} {p : Str × Option Str} {c : Addr} (h : CodeIs K (He.fAd K p) c) : He.codeOf K p = c := by
  obtain ⟨oc, od, fd, osl, lk, e⟩ := h
  exact He.codeOf_eq lk e
/-! ### the end for a law with repr that makes lambdas in one def: its table is told, empty at first -/
/-- what is known where the law is called: the script's list at a, the def's empty table at t -/
structure Stt (K : PySem.W.Frag) (h : Heap) (a c t : Addr) (vs : List Value) : Prop where
  sc : h.get? a = some { cls := .type "list", data := .seq vs.toArray }
  tb : h.get? t = some { cls := .none, data := .fields #[] }
  nk : K.lookup t = none
  cd : PySem.W.CodeHd h c t
theorem Stt.ne {K : PySem.W.Frag} {h : Heap} {a c t : Addr} {vs : List Value} (S : Stt K h a c t vs) : a ≠ t := fun z => by
  have e := S.sc
  rw [z, S.tb] at e
  have e2 : Data.fields #[] = Data.seq vs.toArray _ := congrArg Obj.data (Option.some.inj e)
  cases e2
/-- at most the script and the table are tracked -/
structure Trk (H : Hp) (a t : Addr) : Prop where
  tb : H t = some (.tbl #[])
  at_ : ∀ b, H b = none ∨ b = t ∨ (b = a ∧ ∃ o xs, H b = some (.frz o (.lst xs)))
section
variable {P : Program} {w : World} {K : PySem.W.Frag} {mg mb : Str → Option Value} {h : Heap} {a c t : Addr} {vs : List Value} {H : Hp}
theorem Trk.free (T : Trk H a t) (S : Stt K h a c t vs) {b : Addr} {o : Obj} (e : h.get? b = some o) (h1 : ∀ xs n, o.data ≠ .seq xs n) (h2 : o.data ≠ .fields #[]) : H b = none := by
  rcases T.at_ b with z | rfl | ⟨rfl, _⟩
  · exact z
  · rw [S.tb] at e; cases e; exact absurd rfl h2
  · rw [S.sc] at e; cases e; exact absurd rfl (h1 _ _)
theorem Trk.base (T : Trk H a t) (S : Stt K h a c t vs) {b : Addr} {o : Obj} (e : h.get? b = some o) (h1 : ∀ xs n, o.data ≠ .seq xs n) (h2 : o.data ≠ .fields #[]) : (hidT h H).get? b = some o := hidT_get e (T.free S e h1 h2)
theorem Trk.ns (T : Trk H a t) (S : Stt K h a c t vs) {b : Addr} {m : Str → Option Value} (n : h.Ns b m) : (hidT h H).Ns b m := by
  obtain ⟨o, es, ep, e, d, r⟩ := n
  refine ⟨o, es, ep, T.base S e (fun xs n z => ?_) (fun z => ?_), d, r⟩
  · rw [d] at z; cases z
  · rw [d] at z; cases z
theorem Trk.kin (T : Trk H a t) (S : Stt K h a c t vs) (X : K.In h) (n : H a ≠ none → K.lookup a = none) : K.In (hidT h H) := fun b o e => hidT_get (X b o e) (by
  rcases T.at_ b with z | rfl | ⟨rfl, o', xs, z⟩
  · exact z
  · rw [S.nk] at e; cases e
  · rw [n (by rw [z]; exact fun z => nomatch z)] at e; cases e)
theorem Trk.tab (T : Trk H a t) (S : Stt K h a c t vs) (hns : h.Ns mainGlobals mg)
    (hbm : ∃ (bm : Addr) (ob : Obj), mg "__builtins__" = some (.ref bm) ∧ bm ≠ builtinsNs ∧ h.get? bm = some ob ∧ ob.cls = .type "module" ∧ ob.dict = some builtinsNs ∧ ob.data = .plain) : TabB (hidT h H) mg c t := by
  have hg := hns
  obtain ⟨og, es, ep, eg, dg, _⟩ := hg
  refine ⟨?_, ?_, fun z => ?_⟩
  · obtain ⟨o, us, file, tf, flags, tg, inF, text, tt, e1, r1, r2, r3, r⟩ := S.cd
    refine ⟨o, us, file, tf, flags, tg, inF, text, tt, T.base S e1 (fun xs n z => ?_) (fun z => ?_), r1, r2, r3, r⟩
    · rw [r2] at z; cases z
    · rw [r2] at z; cases z; simp at r3
  · obtain ⟨bm, ob, b1, b2, b3, b4, b5, b6⟩ := hbm
    refine ⟨bm, ob, b1, b2, fun q => ?_, fun q => ?_, T.base S b3 (fun xs n z => ?_) (fun z => ?_), b4, b5, b6⟩
    · rw [q, eg] at b3; cases b3; rw [dg] at b6; cases b6
    · rw [q, S.tb] at b3; cases b3; cases b6
    · rw [b6] at z; cases z
    · rw [b6] at z; cases z
  · rw [z, S.tb] at eg; cases eg; cases dg
end
end NL
namespace NQ
open PySem L2 StX LamX
/-! ### frames beside tables of code objects -/
def okU (u : HO) : Prop := (∀ ps, u ≠ .tbl ps) ∧ ∀ φ, u ≠ .ext φ
section
variable {K : PySem.W.Frag} {G : Addr → Prop} {H H' : Hp} {a : Addr}
theorem rd_u {u : HO} (h : Rd H a u) (hu : okU u) : ∀ o, H a = some o → okU o := fun o q => by
  rcases h with h | ⟨ob, h⟩
  · rw [h] at q; cases q; exact hu
  · rw [h] at q; cases q; exact ⟨(fun _ z => nomatch z), (fun _ z => nomatch z)⟩
theorem CellR.u {t : T} {vs : List V} (h : CellR K H a t vs) : ∀ o, H a = some o → okU o := fun o q => by
  unfold CellR at h
  split at h
  · exact rd_u h ⟨(fun _ z => nomatch z), (fun _ z => nomatch z)⟩ o q
  · rw [h] at q; cases q; exact ⟨(fun _ z => nomatch z), (fun _ z => nomatch z)⟩
  · exact rd_u h.2 ⟨(fun _ z => nomatch z), (fun _ z => nomatch z)⟩ o q
  · exact rd_u h.2 ⟨(fun _ z => nomatch z), (fun _ z => nomatch z)⟩ o q
  · obtain ⟨_, _, h⟩ := h; rw [h] at q; cases q; exact ⟨(fun _ z => nomatch z), (fun _ z => nomatch z)⟩
  · exact h.elim
mutual
theorem Df.n (e : ExtN H H') : ∀ {v : V} {t : T}, Df K G H v t → Df K G H' v t
  | _, _, .sc h => .sc h
  | _, _, .nd n c r => .nd n (c.keep fun o q => e _ _ q (c.u o q).1) (DfL.n e r)
theorem DfL.n (e : ExtN H H') : ∀ {vs : List V} {ts : List T}, DfL K G H vs ts → DfL K G H' vs ts
  | _, _, .nil => .nil
  | _, _, .cons h r => .cons (Df.n e h) (DfL.n e r)
end
mutual
theorem Ow.n (e : ExtN H H') : ∀ {s : Sh} {F : List Addr} {v : V} {t : T}, Ow K G H s F v t → Ow K G H' s F v t
  | _, _, _, _, .fz h => .fz (h.n e)
  | _, _, _, _, .nd c k r => .nd (c.keep fun o q => e _ _ q (c.r.u o q).1) k (OwL.n e r)
  | _, _, _, _, .optN => .optN
  | _, _, _, _, .optS h => .optS (Ow.n e h)
theorem OwL.n (e : ExtN H H') : ∀ {ss : List Sh} {F : List Addr} {vs : List V} {ts : List T}, OwL K G H ss F vs ts → OwL K G H' ss F vs ts
  | _, _, _, _, .nil => .nil
  | _, _, _, _, .cons h r => .cons (Ow.n e h) (OwL.n e r)
end
mutual
theorem Ow.u : ∀ {s : Sh} {F : List Addr} {v : V} {t : T}, Ow K G H s F v t → ∀ a ∈ F, ∀ o, H a = some o → okU o
  | _, _, _, _, .fz _, _, z => absurd z List.not_mem_nil
  | _, _, _, _, .nd c k r, b, z => (List.mem_cons.mp z).elim (fun q => by rw [q]; exact c.r.u) fun q => OwL.u r b q
  | _, _, _, _, .optN, _, z => absurd z List.not_mem_nil
  | _, _, _, _, .optS h, a, z => Ow.u h a z
theorem OwL.u : ∀ {ss : List Sh} {F : List Addr} {vs : List V} {ts : List T}, OwL K G H ss F vs ts → ∀ a ∈ F, ∀ o, H a = some o → okU o
  | _, _, _, _, .nil, _, z => absurd z List.not_mem_nil
  | _, _, _, _, .cons h r, a, z => (List.mem_append.mp z).elim (fun q => Ow.u h a q) fun q => OwL.u r a q
end
variable {X : List Addr} {Fm Fm' : Nat → List Addr} {W : Addr → Prop} {sh : Nat → Sh} {σ : L2.St} {δ : Dl}
theorem Sr.n (e : ExtN H H') {s : Sh} {F : List Addr} {v : V} {t : T} (h : Sr K X Fm W H s F v t) : Sr K X Fm W H' s F v t := by
  rcases h with (⟨h1, h2, h3⟩ | ⟨h1, a, d, c, f, u, h2, h3, h4, h5, h6⟩) | h
  · exact .inl (.inl ⟨h1, h2, h3.n e⟩)
  · exact .inl (.inr ⟨h1, a, d, c, f, u, h2, h3, h4, e _ _ h5 (fun _ z => nomatch z), h6.n e⟩)
  · exact .inr (h.n e)
theorem Fr.n (e : ExtN H H') (f : Fr K sh noA [] Fm H σ δ) : Fr K sh noA [] Fm H' σ δ :=
  { f with rel := fun i t q => (f.rel i t q).elim fun v k => ⟨v, k.1, k.2.n e⟩, wl := fun _ z => z.elim, xl := fun _ z => absurd z List.not_mem_nil }
theorem Fr.u (f : Fr K sh W X Fm H σ δ) : ∀ a, Om Fm a → ∀ o, H a = some o → okU o := fun a ⟨i, h⟩ => by
  cases e : dAt δ i with
  | none => rw [f.un i e] at h; exact absurd h List.not_mem_nil
  | some t =>
    obtain ⟨v, _, o⟩ := f.rel i t e
    rcases o with (⟨_, h2, _⟩ | ⟨h2, _⟩) | o
    · rw [h2] at h; exact absurd h List.not_mem_nil
    · rw [h2] at h; exact absurd h List.not_mem_nil
    · exact o.u a h
end
/-! ### a part of a list of one's own, its ends made by calls -/
/-! ### in a clause with a name: isinstance of the caught exception, a built-in class asked for -/
section
variable {X : Cx} {K : PySem.W.Frag} {sh : Nat → Sh} {a d : Addr} {oe : Obj} {pn : List (Addr × Obj)} {cl fl : Str} {y : String} {o ce : Expr} {p pos : Pos} {mk : List (Str × Bool)}
end
/-! ### statements of a def that calls what makes a lambda -/
section
variable {X : Cx} {K : PySem.W.Frag} {c : Cf} {T0 : List (Addr × Str)} {Wx : WX} {st : Stmt} {rest : List Stmt} {F G : Sf}
open Classical in
end
end NQ
/-! A text with a token: e.replace(" ", x), where the local x was drawn from a written list. -/
namespace NL
open PySem PySem.Spec PyProof.Rows L2
/-- the frame's names are as they were -/
def Kn (X : Cx) (s s' : Shared) : Prop := ∀ m, s.heap.Ns X.env.locals m → s'.heap.Ns X.env.locals m
theorem Kn.refl {X : Cx} {s : Shared} : Kn X s s := fun _ h => h
theorem Kn.tr {X : Cx} {s0 s1 s2 : Shared} (h1 : Kn X s0 s1) (h2 : Kn X s1 s2) : Kn X s0 s2 := fun m h => h2 m (h1 m h)
theorem Kn.keep {X : Cx} {s s' : Shared} (k : ∀ b u, s.heap.get? b = some u → s'.heap.get? b = some u) : Kn X s s' := fun m h => by
  obtain ⟨o, es, ep, ho, r⟩ := h
  exact ⟨o, es, ep, k _ _ ho, r⟩
/-! ### expressions that keep the frame's names -/
section
variable {X : Cx}
/-! ### arguments -/
/-! ### the replacing itself -/
end
/-! ### one of some written texts -/
/-- what a drawing def gives back, told of the value itself -/
def OfRun (P : Program) (w : World) (K : PySem.W.Frag) (mg : Str → Option Value) (base : Heap) (k : Nat) (f : Addr) : Prop :=
  ∀ (A : Around) (outer : List Env) (s : Shared) (H : Hp) (b a : Addr) (o : Obj) (us : List Value) (xs : List V) (Q : VK) (E : XK), Room k A → Env0 P w K mg base A outer s H → Bag H b → H a = some (.frz o (.lst xs)) → o.cls = .type "list" → o.data = .seq us.toArray 0 → Vals xs us → a ≠ b → 0 < xs.length → xs.length < 1000 →
    (∀ v H', v ∈ xs → Sx [b] H H' → Bag H' b → Q v H') →
    codeAny (model P w) A (.call (.ref f) ⟨[.ref b, .ref a], []⟩) (fun r s' => match r with | .ok (.ret u) => u ∈ us ∧ CE outer P w H s Q u s' | .ok _ => False | .error e => L2.CX P w outer H s E e s') s
section
variable {X : Cx}
end
/-- a drawing def of the module -/
structure OfC (P : Program) (w : World) (K : PySem.W.Frag) (mg : Str → Option Value) (base : Heap) (k : Nat) (x : Str) : Prop where
  ex : ∃ f, mg x = some (.ref f) ∧ PySem.W.keepIn K (.ref f) = true ∧ OfRun P w K mg base k f
/-! ### str(e), e an object of an own class with __str__ -/
section
variable {X : Cx} {k : Nat} {C : Addr} {a : Expr} {ta : TE} {p pos : Pos} {ps : List Str} {sp : Sp} {W : WX}
end
end NL
/-! Own exceptions as values: made, their field read, asked for their classes. -/
namespace NL
open PySem PySem.Spec PyProof.Rows L2
/-- an exception of the own class C stands at a, its field f is v -/
def ExV (H : Hp) (a C : Addr) (f : Str) (v : V) : Prop := ∃ d, H a = some (exo a C (some d)) ∧ H d = some (exd d [(f, v)])
theorem ExV.ed {U : List Addr} {H H' : Hp} {a C : Addr} {f : Str} {v : V} (h : ExV H a C f v) (e : Ed U H H') (hU : ∀ x ∈ U, ∀ φ, H x ≠ some (.ext φ)) : ExV H' a C f v := by
  obtain ⟨d, h1, h2⟩ := h
  exact ⟨d, e.get (fun z => hU a z _ h1) h1, e.get (fun z => hU d z _ h2) h2⟩
section
variable {X : Cx} {k : Nat} {x f : Str} {C : Addr} {e : Expr} {es : List Expr} {ta : TA} {te : TE} {p pos : Pos}
/-- repr of any data -/
def dReprA (K : PySem.W.Frag) : List V → Hp → VK → Prop := fun xs H Q => ∃ x d, xs = [x] ∧ Dp K H x d ∧ d.showable = true ∧ d.hasDict = false ∧ d.depth ≤ 60 ∧ d.shown.length ≤ sizeLine ∧ Q (.str d.shown) H
theorem cl_reprA (K : PySem.W.Frag) (hG : X.A.guards = some []) (hu : X.A.units + 64 < cLine) (h : X.K = K := by rfl) : CallR X (.builtin "repr") (dReprA K) := by
  subst h
  intro pins s σ H xs us Q I r h
  obtain ⟨x, d, rfl, hd, hs, hn, hdp, hz, q⟩ := h
  obtain ⟨u, rfl, rx⟩ := vals1 r
  have shape : (∃ a, x = .ref a) ∨ (x = .non ∧ d = .none) ∨ (∃ b, x = .bl b ∧ d = .bool b) ∨ (∃ i, x = .int i ∧ d = .int i) ∨ ∃ y, x = .str y ∧ d = .str y := by
    cases hd with
    | non => exact .inr (.inl ⟨rfl, rfl⟩)
    | bl b => exact .inr (.inr (.inl ⟨b, rfl, rfl⟩))
    | int i => exact .inr (.inr (.inr (.inl ⟨i, rfl, rfl⟩)))
    | str y => exact .inr (.inr (.inr (.inr ⟨y, rfl, rfl⟩)))
    | _ => exact .inl ⟨_, rfl⟩
  rcases shape with ⟨a, rfl⟩ | ⟨rfl, rfl⟩ | ⟨b, rfl, rfl⟩ | ⟨i, rfl, rfl⟩ | ⟨y, rfl, rfl⟩
  · obtain rfl : u = Value.ref a := rx
    obtain ⟨as, rr⟩ := Dp.reads I d _ _ hd rfl
    exact repr_of_reads' rr hs (fun z => by rw [hn] at z; cases z) hG (by omega) (fun _ _ e => e) (fun h' u tk hk => ⟨.str d.shown, H, I.kept hk, ⟨_, rfl⟩, q⟩) hz
  · obtain rfl : u = Value.none := rx
    rw [PyData.shown_none] at q
    exact PySem.P.repr_of_none ⟨.str _, H, I.tok _, ⟨_, rfl⟩, q⟩
  · obtain rfl : u = Value.bool b := rx
    rw [PyData.shown_bool] at q
    exact PySem.P.repr_of_bool ⟨.str _, H, I.tok _, ⟨_, rfl⟩, q⟩
  · obtain ⟨t, rfl⟩ := rx
    rw [PyData.shown_int] at q
    refine PySem.P.repr_of_int ?_ ⟨.str _, H, I.tok _, ⟨_, rfl⟩, q⟩
    simp only [PyData.showable, decide_eq_true_eq] at hs
    omega
  · obtain ⟨t, rfl⟩ := rx
    rw [PyData.shown_str] at q hz
    exact PySem.P.repr_of_str ⟨.str _, H, I.tok _, ⟨_, rfl⟩, q⟩ hz
theorem g_repr {K : PySem.W.Frag} {W : List Addr} {H : Hp} {x : V} {d : PyData} {Q : VK} (h : Df W H x d) (h1 : d.showable = true) (h2 : d.hasDict = false) (h3 : d.depth ≤ 60) (h4 : d.shown.length ≤ sizeLine) (h5 : noD d = true) (k : Q (.str d.shown) H) : dReprA K [x] H Q := ⟨x, d, rfl, h.dp h5, h1, h2, h3, h4, k⟩
end
/-! ### several of them -/
/-- as: one exception of each class, all with the value v -/
def Exs (K : PySem.W.Frag) (cl fl : Nat → Str) (H : Hp) (as : List Addr) (v : V) : Prop := ∀ i a, as[i]? = some a → ExV H a (He.ga K (cl i)) (fl i) v
section
variable {K : PySem.W.Frag} {cl fl : Nat → Str} {H H' : Hp} {as : List Addr} {v : V}
theorem Exs.nil : Exs K cl fl H [] v := fun i a h => by simp at h
theorem Exs.ed (h : Exs K cl fl H as v) (e : Ed [] H H') : Exs K cl fl H' as v := fun i a hi => (h i a hi).ed e fun _ z => absurd z List.not_mem_nil
theorem Exs.snoc {a : Addr} {C : Addr} {f : Str} {n : Nat} (h : Exs K cl fl H as v) (x : ExV H a C f v) (hn : as.length = n := by rfl) (hc : C = He.ga K (cl n) := by rfl) (hf : f = fl n := by rfl) : Exs K cl fl H (as ++ [a]) v := fun i b hi => by
  subst hc hf hn
  rcases Nat.lt_trichotomy i as.length with q | q | q
  · rw [List.getElem?_append_left q] at hi; exact h i b hi
  · subst q
    rw [List.getElem?_append_right (Nat.le_refl _), Nat.sub_self] at hi
    cases hi
    exact x
  · rw [List.getElem?_eq_none (by simp; omega)] at hi
    cases hi
end
end NL
/-! Closures: functions made within a def, kept beyond it, called later. -/
namespace NL
open PySem PySem.Spec PyProof.Rows L2 LamX NdefX
/-! ### cells that are told -/
def CelX (c : Addr) : HO := .ext fun h => ∃ o, h.get? c = some o
/-- the cell at c holds v; it is not written any more -/
def CellV (H : Hp) (c : Addr) (v : V) : Prop := ∃ o u, H c = some (.frz o (CelX c)) ∧ o.data = .cell (some u) ∧ RelV v u
def hid (cs : List Addr) (H : Hp) : Hp := fun b => if b ∈ cs then none else H b
def put (cs : List Addr) (H H' : Hp) : Hp := fun b => if b ∈ cs then H b else H' b
theorem hid_in {cs : List Addr} {H : Hp} {b : Addr} (h : b ∈ cs) : hid cs H b = none := if_pos h
theorem hid_out {cs : List Addr} {H : Hp} {b : Addr} (h : b ∉ cs) : hid cs H b = H b := if_neg h
theorem put_in {cs : List Addr} {H H' : Hp} {b : Addr} (h : b ∈ cs) : put cs H H' b = H b := if_pos h
theorem put_out {cs : List Addr} {H H' : Hp} {b : Addr} (h : b ∉ cs) : put cs H H' b = H' b := if_neg h
/-- the places cs hold told things -/
def Told (cs : List Addr) (H : Hp) : Prop := ∀ c ∈ cs, ∃ o, H c = some (.frz o (CelX c))
section
variable {P : Program} {w : World} {H H' : Hp} {h h' B : Heap} {cs fs : List Addr} {a : Addr} {o : HO}
theorem Told.out (T : Told cs H) (e : H a = some o) (n : ∀ ob, o ≠ .frz ob (CelX a)) : a ∉ cs := fun z => by
  obtain ⟨ob, q⟩ := T a z
  rw [q] at e
  exact n ob (Option.some.inj e).symm
theorem hok_hid (x : HOk P w H h) (T : Told cs H) : HOk P w (hid cs H) h := fun a o e => by
  by_cases ha : a ∈ cs
  · rw [hid_in ha] at e; cases e
  · rw [hid_out ha] at e
    refine (x a o e).stay (fun b u _ q => q) (fun b q => ?_) fun b xs q => ?_
    · rw [hid_out (T.out q fun ob z => nomatch z)]; exact q
    · rw [hid_out (T.out q fun ob z => nomatch z)]; exact q
theorem hok_put (x : HOk P w H' h') (hc : ∀ c ∈ cs, H' c = none ∧ ∃ o, H c = some (.frz o (CelX c)) ∧ h'.get? c = some o) : HOk P w (put cs H H') h' := fun a o e => by
  by_cases ha : a ∈ cs
  · rw [put_in ha] at e
    obtain ⟨_, ob, e1, e2⟩ := hc a ha
    rw [e1] at e
    cases e
    exact ⟨e2, ⟨ob, e2⟩, ⟨ob, e2⟩, fun h1 h2 ⟨o, e⟩ st => ⟨o, st _ e⟩⟩
  · rw [put_out ha] at e
    have no : ∀ b u, H' b = some u → b ∉ cs := fun b u q z => by rw [(hc b z).1] at q; cases q
    refine (x a o e).stay (fun b u _ q => q) (fun b q => ?_) fun b xs q => ?_
    · rw [put_out (no b _ q)]; exact q
    · rw [put_out (no b _ q)]; exact q
theorem un_put (T : Told cs H) (u : Un fs [] (hid cs H) H' h h') (hc : ∀ c ∈ cs, c ∉ fs) : Un fs [] H (put cs H H') h h' := by
  have nc : ∀ b, H b = none → b ∉ cs := fun b e z => by obtain ⟨ob, q⟩ := T b z; rw [e] at q; cases q
  have no : ∀ b o, H b = some o → (∀ ob, o ≠ .frz ob (CelX b)) → b ∉ cs := fun b o e n => T.out e n
  refine ⟨fun b o e n hb hx => u.keep b o e (by rw [hid_out (nc b n)]; exact n) hb hx, fun b o e n hb hx => u.slot b o e (by rw [hid_out (nc b n)]; exact n) hb hx,
    fun b o e n hx => ?_, fun b o e hx => u.there b o e hx, fun b xs e => ?_, fun b ob uo e => ?_, fun b ps e => ?_⟩
  · rw [put_out (nc b n)]
    exact u.free b o e (by rw [hid_out (nc b n)]; exact n) hx
  · have n := no b _ e fun ob z => nomatch z
    rw [put_out n]
    exact u.tups b xs (by rw [hid_out n]; exact e)
  · by_cases hb : b ∈ cs
    · rw [put_in hb]; exact e
    · rw [put_out hb]
      exact u.frzs b ob uo (by rw [hid_out hb]; exact e)
  · have n := no b _ e fun ob z => nomatch z
    rw [put_out n]
    exact u.tbls b ps (by rw [hid_out n]; exact e)
theorem ub_put (T : Told cs H) (u : UB fs (hid cs H) H' h B h') : UB fs H (put cs H H') h B h' := by
  have nc : ∀ b, H b = none → b ∉ cs := fun b e z => by obtain ⟨ob, q⟩ := T b z; rw [e] at q; cases q
  have no : ∀ b o, H b = some o → (∀ ob, o ≠ .frz ob (CelX b)) → b ∉ cs := fun b o e n => T.out e n
  refine ⟨fun b o e n hb => u.keep b o e (by rw [hid_out (nc b n)]; exact n) hb, fun b o e hb => u.slot b o e hb,
    fun b o e n => ?_, fun b o e hx => u.there b o e hx, fun b xs e => ?_, fun b ob uo e => ?_, fun b ps e => ?_⟩
  · rw [put_out (nc b n)]
    exact u.free b o e (by rw [hid_out (nc b n)]; exact n)
  · have n := no b _ e fun ob z => nomatch z
    rw [put_out n]
    exact u.tups b xs (by rw [hid_out n]; exact e)
  · by_cases hb : b ∈ cs
    · rw [put_in hb]; exact e
    · rw [put_out hb]
      exact u.frzs b ob uo (by rw [hid_out hb]; exact e)
  · have n := no b _ e fun ob z => nomatch z
    rw [put_out n]
    exact u.tbls b ps (by rw [hid_out n]; exact e)
end
/-! ### made functions -/
structure MF where
  name : Str
  qual : Str
  params : Arguments
  body : FuncBody
  scope : Scope
  cl : List (Str × Addr)
  c : Addr
abbrev MF.fd (F : MF) (doc pm ctv : Value) : FuncData := { name := F.name, qualname := F.qual, params := F.params, body := F.body, scope := F.scope, globals := mainGlobals, closure := F.cl, defaults := .none, kwdefaults := .none, doc := doc, pyModule := pm, annotations := none, code := .ref F.c, closureTuple := ctv, builtins := builtinsNs }
abbrev MF.cs (F : MF) : List Addr := F.cl.map (·.2)
def FnM (f : Addr) (F : MF) : HO := .ext fun h => ∃ (od : Option Addr) (sl : Array (Option Value)) (doc pm ctv : Value), h.get? f = some (⟨.type "function", od, .func (F.fd doc pm ctv), sl⟩ : Obj)
abbrev MF.of (F : NF) : MF := ⟨F.name, F.qual, F.params, .stmts F.body, F.scope, F.cl, F.c⟩
theorem fnM_at {P : Program} {w : World} {H : Hp} {h : Heap} {f : Addr} {F : MF} (hok : HOk P w H h) (e : H f = some (FnM f F)) : ∃ (od : Option Addr) (sl : Array (Option Value)) (doc pm ctv : Value), h.get? f = some (⟨.type "function", od, .func (F.fd doc pm ctv), sl⟩ : Obj) := by
  obtain ⟨z, _, _⟩ := hok f _ e
  exact z
theorem fnM_fnAt {P : Program} {w : World} {H : Hp} {h : Heap} {f : Addr} {F : MF} (hok : HOk P w H h) (e : H f = some (FnM f F)) : PySem.W.FnAt f h := by
  obtain ⟨od, sl, doc, pm, ctv, ho⟩ := fnM_at hok e
  exact ⟨_, od, _, sl, ho⟩
/-- what a made function promises, its cells told by the heap itself (as HandS.Nested's NOk, for both kinds of bodies) -/
structure MOk (P : Program) (w : World) (K : PySem.W.Frag) (mg : Str → Option Value) (base : Heap) (k : Nat) (f : Addr) (F : MF) (ps fr : List Str) (sp : List (Option V) → Sp) : Prop where
  len : ∀ ws vs H Q E, sp ws vs H Q E → vs.length = ps.length
  run : ∀ (A : Around) (outer : List Env) (s : Shared) (H : Hp) (us : List Value) (vs : List V) (ws : List (Option V)) (Q : VK) (E : XK), Room k A → Env0 P w K mg base A outer s H → H f = some (FnM f F) → H F.c = some (CodeO F.c F.qual) →
    CellsAt F.cl fr ws s.heap H → Vals vs us → sp ws vs H Q E → codeAny (model P w) A (.call (.ref f) ⟨us, []⟩) (CR (L2.CX P w) outer P w H s Q E) s
theorem MOk.of {P : Program} {w : World} {K : PySem.W.Frag} {mg : Str → Option Value} {base : Heap} {k : Nat} {f : Addr} {F : NF} {ps fr : List Str} {sp : List (Option V) → Sp} (o : NOk P w K mg base (L2.CX P w) k f F ps fr sp) : MOk P w K mg base k f (MF.of F) ps fr sp :=
  ⟨o.len, fun A outer s H us vs ws Q E hr e0 hf hc C r h => o.run A outer s H us vs ws Q E hr e0 hf hc C r h⟩
/-! ### what is called: a value with a promise -/
structure Cle (P : Program) (w : World) (K : PySem.W.Frag) (mg : Str → Option Value) (base : Heap) (k : Nat) (f : Addr) (sp : Sp) : Prop where
  fn : ∀ (vs : List V) (H : Hp) (Q : VK) (E : XK) (h : Heap), sp vs H Q E → HOk P w H h → PySem.W.FnAt f h
  run : ∀ (A : Around) (outer : List Env) (s : Shared) (H : Hp) (us : List Value) (vs : List V) (Q : VK) (E : XK), Room k A → Env0 P w K mg base A outer s H → Vals vs us → sp vs H Q E →
    codeAny (model P w) A (.call (.ref f) ⟨us, []⟩) (CR (L2.CX P w) outer P w H s Q E) s
theorem Cle.mono {P : Program} {w : World} {K : PySem.W.Frag} {mg : Str → Option Value} {base : Heap} {j k : Nat} {f : Addr} {sp : Sp} (c : Cle P w K mg base j f sp) (h : j ≤ k) : Cle P w K mg base k f sp :=
  ⟨c.fn, fun A outer s H us vs Q E hr => c.run A outer s H us vs Q E (hr.mono h)⟩
/-- a made function lies at f, its free names have the values ws -/
structure Clo (H : Hp) (f : Addr) (F : MF) (fr : List Str) (ws : List V) : Prop where
  fn : H f = some (FnM f F)
  co : H F.c = some (CodeO F.c F.qual)
  inj : ∀ x y c, F.cl.lookup x = some c → F.cl.lookup y = some c → x = y
  len : ws.length = fr.length
  told : ∀ c ∈ F.cs, ∃ o, H c = some (.frz o (CelX c)) ∧ ∃ v, o.data = .cell v
  has : ∀ (i : Nat) (y : Str), fr[i]? = some y → ∃ c v, F.cl.lookup y = some c ∧ ws[i]? = some v ∧ CellV H c v
theorem mem_cs {F : MF} {y : Str} {c : Addr} (e : F.cl.lookup y = some c) : c ∈ F.cs := List.mem_map.mpr ⟨(y, c), PySem.mem_of_lookup e, rfl⟩
section
variable {H H' : Hp} {f : Addr} {F : MF} {fr : List Str} {ws : List V}
theorem Clo.tld (C : Clo H f F fr ws) : Told F.cs H := fun c hc => by
  obtain ⟨o, e, _⟩ := C.told c hc
  exact ⟨o, e⟩
theorem Clo.mv (C : Clo H f F fr ws) (g : ∀ a o, (a = f ∨ a = F.c ∨ a ∈ F.cs) → H a = some o → H' a = some o) : Clo H' f F fr ws := by
  refine ⟨g _ _ (.inl rfl) C.fn, g _ _ (.inr (.inl rfl)) C.co, C.inj, C.len, fun c hc => ?_, fun i y e => ?_⟩
  · obtain ⟨o, e, q⟩ := C.told c hc
    exact ⟨o, g _ _ (.inr (.inr hc)) e, q⟩
  · obtain ⟨c, v, h1, h2, o, u, h3, h4⟩ := C.has i y e
    exact ⟨c, v, h1, h2, o, u, g _ _ (.inr (.inr (mem_cs h1))) h3, h4⟩
theorem Clo.fout (C : Clo H f F fr ws) : f ∉ F.cs := C.tld.out C.fn fun ob z => nomatch z
theorem Clo.cout (C : Clo H f F fr ws) : F.c ∉ F.cs := C.tld.out C.co fun ob z => nomatch z
theorem Clo.cells {P : Program} {w : World} {h : Heap} (C : Clo H f F fr ws) (hok : HOk P w H h) : CellsAt F.cl fr (ws.map some) h (hid F.cs H) := by
  refine ⟨by rw [List.length_map]; exact C.len, fun y c e => ?_, C.inj, fun i y e => ?_⟩
  · obtain ⟨o, e1, v, e2⟩ := C.told c (mem_cs e)
    exact ⟨hid_in (mem_cs e), v, o, (hok c _ e1).1, e2⟩
  · obtain ⟨c, v, h1, h2, o, u, h3, h4, h5⟩ := C.has i y e
    refine ⟨c, h1, fun v' e' => ?_⟩
    rw [List.getElem?_map, h2] at e'
    cases e'
    exact ⟨u, h5, o, (hok c _ h3).1, h4⟩
end
/-- nothing lies in the places cs -/
def Vac (cs : List Addr) (H : Hp) : Prop := ∀ c ∈ cs, H c = none
/-- the promise of a closure, told of the heap with its cells -/
def sCl (f : Addr) (G : List (Str × Addr) → Addr → MF) (fr : List Str) (sp : List V → Sp) : Sp := fun vs H Q E => ∃ (cl : List (Str × Addr)) (c : Addr) (ws : List V), Clo H f (G cl c) fr ws ∧
  sp ws vs (hid (G cl c).cs H) (fun v H' => Vac (G cl c).cs H' → Q v (put (G cl c).cs H H')) (fun cls d H' => Vac (G cl c).cs H' → E cls d (put (G cl c).cs H H'))
theorem cle_of {P : Program} {w : World} {K : PySem.W.Frag} {mg : Str → Option Value} {base : Heap} {k : Nat} {f : Addr} {G : List (Str × Addr) → Addr → MF} {ps fr : List Str} {sp : List V → Sp}
    (m : ∀ cl c, MOk P w K mg base k f (G cl c) ps fr (fun ws vs H Q E => ∃ ws', ws = ws'.map some ∧ sp ws' vs H Q E)) : Cle P w K mg base k f (sCl f G fr sp) := by
  refine ⟨fun vs H Q E h q hok => ?_, fun A outer s H us vs Q E hr e0 r q => ?_⟩
  · obtain ⟨cl, c, ws, C, _⟩ := q
    exact fnM_fnAt hok C.fn
  · obtain ⟨cl, c, ws, C, q⟩ := q
    have T := C.tld
    have nb : ∀ a, H a = none → hid (G cl c).cs H a = none := fun a e => by
      by_cases ha : a ∈ (G cl c).cs
      · exact hid_in ha
      · rw [hid_out ha]; exact e
    have e1 : Env0 P w K mg base A outer s (hid (G cl c).cs H) := ⟨e0.frames, e0.mod, fun b o e => ⟨(e0.bs b o e).1, nb b (e0.bs b o e).2⟩, e0.bsz, e0.funs, fun b hb => nb b (e0.frf b hb), hok_hid e0.hok T, e0.bare⟩
    have nfr : ∀ a ∈ (G cl c).cs, a ∉ frs outer := fun a ha z => by
      obtain ⟨o, e⟩ := T a ha
      rw [e0.frf a z] at e
      cases e
    refine codeAny_mono ((m cl c).run A outer s _ us vs (ws.map some) _ _ hr e1 (by rw [hid_out C.fout]; exact C.fn) (by rw [hid_out C.cout]; exact C.co) (C.cells e0.hok) r ⟨ws, rfl, q⟩) fun r s' z => ?_
    match r, z with
    | .ok (.ret u), z =>
      obtain ⟨v, H', os, bare, un, hok, rv, q⟩ := z
      have kp : ∀ a ∈ (G cl c).cs, H' a = none ∧ ∃ o, H a = some (.frz o (CelX a)) ∧ _ := fun a ha => by
        obtain ⟨o, e⟩ := T a ha
        have eo : s.heap.get? a = some o := (e0.hok a _ e).1
        exact ⟨un.free a o eo (hid_in ha) List.not_mem_nil, o, e, un.keep a o eo (hid_in ha) (nfr a ha) List.not_mem_nil⟩
      exact ⟨v, put (G cl c).cs H H', os, bare, un_put T un nfr, hok_put hok kp, rv, q fun a ha => (kp a ha).1⟩
    | .ok .next, z => exact z.elim
    | .ok .brk, z => exact z.elim
    | .ok .cont, z => exact z.elim
    | .error e, z =>
      obtain ⟨a, B, H', cls, d, rfl, fl, hok, ub, na, os, bare, q⟩ := z
      have kp : ∀ b ∈ (G cl c).cs, H' b = none ∧ ∃ o, H b = some (.frz o (CelX b)) ∧ B.get? b = some o := fun b hb => by
        obtain ⟨o, e⟩ := T b hb
        have eo : s.heap.get? b = some o := (e0.hok b _ e).1
        exact ⟨ub.free b o eo (hid_in hb), o, e, ub.keep b o eo (hid_in hb) (nfr b hb)⟩
      refine ⟨a, B, put (G cl c).cs H H', cls, d, rfl, fl, hok_put hok kp, ub_put T ub, ?_, os, bare, q fun a ha => (kp a ha).1⟩
      by_cases ha : a ∈ (G cl c).cs
      · obtain ⟨_, o, _, e⟩ := kp a ha
        have := fl.2.1
        rw [this] at e
        cases e
      · rw [put_out ha]; exact na
/-! ### a lambda's promise by its body -/
abbrev MF.nf (F : MF) : NF := ⟨F.name, F.qual, F.params, [], F.scope, F.cl, F.c⟩
/-- the context of a made function's body -/
abbrev mcx (P : Program) (w : World) (K : PySem.W.Frag) (mg : Str → Option Value) (base : Heap) (N : List Str) (F : MF) (f : Addr) (A : Around) (outer : List Env) (s : Shared) (H : Hp) (E : XK) : Cx := ncx (L2.CX P w) P w K mg base N F.nf f A outer s H E
section
variable {P : Program} {w : World} {K : PySem.W.Frag} {mg : Str → Option Value} {base : Heap} {N ps fr : List Str} {F : MF} {f : Addr} {k : Nat} {sp : List (Option V) → Sp}
theorem mok_def {body : List Stmt} (hbd : F.body = .stmts body) (S : NScope N ps fr F.scope) (hb : ∀ (doc pm ctv : Value) (us : List Value), us.length = ps.length → bindArgs (F.fd doc pm ctv) ⟨us, []⟩ = pure (ps.zip us)) (len : ∀ ws vs H Q E, sp ws vs H Q E → vs.length = ps.length)
    (hbody : ∀ (A : Around) (outer : List Env) (s : Shared) (H : Hp) (vs : List V) (ws : List (Option V)) (Q : VK) (E : XK), Room k (A.deeper (envF F.nf f s.heap.objs.size)) → ws.length = fr.length → sp ws vs H Q E →
      ∃ t, PSs (mcx P w K mg base N F f A outer s H E) body t ∧ t { nx := fun _ H' => Q .non H', rt := Q } (startF N vs ws) H) :
    MOk P w K mg base (k + 1) f F ps fr sp := by
  obtain ⟨name, qual, params, b, scope, cl, c⟩ := F
  have hbd : b = .stmts body := hbd
  subst hbd
  exact MOk.of (nok_of (F := ⟨name, qual, params, body, scope, cl, c⟩) S hb len fun A outer s H vs ws Q E hr _ _ hl h => hbody A outer s H vs ws Q E hr hl h)
end
/-! ### functions made: by a lambda, by a def -/
section
variable {X : Cx} {pins : List (Addr × Obj)} {σ : L2.St} {H : Hp} {s : Shared}
end
/-! ### a def that makes a function and gives it back -/
theorem FunD.okRaw {P : Program} {w : World} {K : PySem.W.Frag} {mg : Str → Option Value} {base : Heap} {x qual : Str} {params : Arguments} {body : List Stmt} {scope : Scope} {dvs : List V} {kws : List (Str × V)} {f : Addr} {fd : FuncData} {CX : CXT} {N ps : List Str} {k : Nat} {sp : Sp}
    (F : FunD K x qual params body scope dvs kws f fd) (S : FnScope N ps scope) (len : ∀ vs H Q E, sp vs H Q E → vs.length = ps.length)
    (hbody : ∀ (c : Addr) (A : Around) (outer : List Env) (s s1 : Shared) (H : Hp) (vs : List V) (Q : VK) (E : XK), CodeIs K f c → Room k (A.deeper (envOfC qual scope s.heap.objs.size f (.ref c))) → sp vs H Q E → HOk P w H s.heap →
      Inv (cxOf CX P w K mg base N qual scope f (.ref c) A outer s H E) [] (start N vs) H s1 →
      wpAny (model P w) (A.deeper (envOfC qual scope s.heap.objs.size f (.ref c))) (execs body (envOfC qual scope s.heap.objs.size f (.ref c))) (fun fl s' => match fl with
        | .ret u => CE outer P w H s Q u s'
        | .next => CE outer P w H s Q .none s'
        | _ => False) (cxOf CX P w K mg base N qual scope f (.ref c) A outer s H E).xe s1) : FnOk P w K mg base CX (k + 1) f fd ps sp := by
  obtain ⟨oc, od, dV, kV, doc, pm, an, cdv, ct, osl, rfl, lk, hcd, _, _⟩ := F.ex
  obtain ⟨c, rfl⟩ := He.codeIn_ref hcd
  refine ⟨len, fun A outer s H args us vs Q E hr e0 hb r hsp => ?_⟩
  have hl := len _ _ _ _ hsp
  have KX : K.In s.heap := e0.mod.kin.keeps fun b o e => (e0.bs b o e).1
  have lim : s.heap.NoLimit := e0.mod.nolimit.keeps fun b o e => (e0.bs b o e).1
  have hkind : ∀ y ∈ ps.zip us, scope.names.lookup y.1 = some .local ∨ (scope.names.lookup y.1 = some .cell ∧ ((cellsFrom (s.heap.objs.size + 1) scope.names []).lookup y.1).isSome = true) := fun ⟨n, v⟩ hy => by
    rcases S.par n (List.of_mem_zip hy).1 with q | q
    · exact .inl q
    · exact .inr ⟨q, PySem.W.cellsFrom_some _ _ _ (.inl q)⟩
  refine codeAny_call_function hr.depth (KX _ _ lk) rfl S.co S.gen rfl (PySem.W.codeRec_of KX hcd) (hb _ _ _ _ ?_)
  refine wpAny_newFunctionEnv_cells S.kind hkind fun env he s1 x => ?_
  subst he
  refine ⟨lim.keeps x.toInCall.keep, codeAny_func ?_⟩
  have I : Inv (cxOf CX P w K mg base N qual scope f (.ref c) A outer s H E) [] (start N vs) H s1 := inv_start S hr.hd e0 hl r x
  refine wpAny_mono (hbody c A outer s s1 H vs Q E ⟨oc, od, _, osl, lk, rfl⟩ (hr.deeper _) hsp e0.hok I) (fun fl s' hs => ?_) fun e s' hs => hs
  cases fl with
  | ret u => exact hs
  | next => exact hs
  | brk => exact hs.elim
  | cont => exact hs.elim
/-- the frame's cells are told from now on: the frame has ended -/
theorem mk_end {X : Cx} {pins : List (Addr × Obj)} {σ : L2.St} {H' : Hp} {s' : Shared} (J : Inv X pins σ H' s') (hxe : X.ex = []) (hfn : ∀ y, X.fn y = true) (hok0 : HOk X.prog X.w X.H_0 X.s_0.heap) {F : MF} {fr : List Str} {js : List Nat} {ws : List V} {f : Addr} {Q : VK}
    (hc : F.cl = cloFrom X.env.cells F.scope.names []) (hfree : ∀ y ∈ F.scope.names, y.2 = .free → X.env.scope.names.lookup y.1 = some .cell ∨ X.env.scope.names.lookup y.1 = some .free) (hfr : ∀ y ∈ fr, (y, NameKind.free) ∈ F.scope.names)
    (hjs : js.map (fun j => X.N[j]?) = fr.map some) (hws : js.map (slotAt σ) = ws.map some) (hf : H' f = some (FnM f F)) (hco : H' F.c = some (CodeO F.c F.qual))
    (q : ∀ H'', Clo H'' f F fr ws → (∀ a, a ∉ F.cs → H'' a = H' a) → (∀ a ∈ F.cs, X.H_0 a = none ∧ H' a = none) → Q (.ref f) H'') : CE X.outer X.prog X.w X.H_0 X.s_0 Q (.ref f) s' := by
  have hfr0 : ∀ y ∈ F.scope.names, y.2 = .free → ∃ c, X.env.cells.lookup y.1 = some c := fun y hy e => (hfree y hy e).elim (fun z => J.ok.has _ (.inl z)) fun z => J.ok.has _ (.inr z)
  have mem : ∀ a ∈ F.cs, ∃ y, X.env.cells.lookup y = some a := fun a ha => by
    obtain ⟨⟨y, c⟩, hy, rfl⟩ := List.mem_map.mp ha
    rw [hc] at hy
    rcases cloFrom_mem hy with z | ⟨h1, h2⟩
    · cases z
    · obtain ⟨c1, e1⟩ := hfr0 _ h1 rfl
      have e1 : X.env.cells.lookup y = some c1 := e1
      exact ⟨y, by rw [e1]; simp only [h2, e1, Option.getD_some]⟩
  have free' : ∀ a ∈ F.cs, H' a = none := fun a ha => by
    obtain ⟨y, e⟩ := mem a ha
    exact J.freeC y a e
  have nexf : ∀ b, b ∉ X.ex := fun b z => by rw [hxe] at z; cases z
  have new : ∀ a ∈ F.cs, X.s_0.heap.objs.size ≤ a := fun a ha => by
    obtain ⟨y, e⟩ := mem a ha
    exact J.ok.cab y a (hfn y) e
  have cell : ∀ a ∈ F.cs, ∃ o v, s'.heap.get? a = some o ∧ o.data = .cell v := fun a ha => by
    obtain ⟨y, e⟩ := mem a ha
    obtain ⟨v, o, h1, h2⟩ := J.cell y a e
    exact ⟨o, v, h1, h2⟩
  obtain ⟨Hc, hHc⟩ : ∃ Hc : Hp, ∀ a o, s'.heap.get? a = some o → Hc a = some (.frz o (CelX a)) := ⟨fun a => match s'.heap.get? a with
    | some o => some (.frz o (CelX a))
    | none => none, fun a o e => by show (match s'.heap.get? a with | some o => some (HO.frz o (CelX a)) | none => none) = _; rw [e]⟩
  have hok : HOk X.prog X.w (put F.cs Hc H') s'.heap := hok_put J.hok fun a ha => by
    obtain ⟨o, v, h1, h2⟩ := cell a ha
    exact ⟨free' a ha, o, hHc a o h1, h1⟩
  have no : ∀ b u, H' b = some u → b ∉ F.cs := fun b u e z => by rw [free' b z] at e; cases e
  have ex0 : X.ex = [] := hxe
  have un : Un (frs X.outer) [] X.H_0 (put F.cs Hc H') X.s_0.heap s'.heap := by
    have u := J.base
    rw [ex0] at u
    refine ⟨u.keep, u.slot, fun b o e n hx => ?_, u.there, fun b xs e => ?_, fun b ob uo e => ?_, fun b ps e => ?_⟩
    · have nb : b ∉ F.cs := fun z => absurd (Heap.lt_size e) (Nat.not_lt.mpr (new b z))
      rw [put_out nb]
      exact u.free b o e n hx
    · have z := u.tups b xs e
      rw [put_out (no b _ z)]; exact z
    · have z := u.frzs b ob uo e
      rw [put_out (no b _ z)]; exact z
    · obtain ⟨more, z⟩ := u.tbls b ps e
      rw [put_out (no b _ z)]; exact ⟨more, z⟩
  refine ⟨.ref f, put F.cs Hc H', J.os, J.bare, un, hok, rfl, q _ ⟨?_, ?_, fun x y c e1 e2 => ?_, ?_, fun c hm => ?_, fun i y e => ?_⟩ (fun a ha => put_out ha) fun a ha => ⟨hok0.fresh (new a ha), free' a ha⟩⟩
  · rw [put_out (no f _ hf)]; exact hf
  · rw [put_out (no _ _ hco)]; exact hco
  · rw [hc] at e1 e2
    exact J.ok.inj x y c (clo_cm hfr0 e1) (clo_cm hfr0 e2)
  · have h1 := congrArg List.length hjs
    have h2 := congrArg List.length hws
    simp only [List.length_map] at h1 h2
    omega
  · obtain ⟨o, v, h1, h2⟩ := cell c hm
    exact ⟨o, by rw [put_in hm]; exact hHc c o h1, v, h2⟩
  · have e2 : (js.map fun j => X.N[j]?)[i]? = some (some y) := by
      rw [hjs, List.getElem?_map, e] <;> rfl
    rw [List.getElem?_map] at e2
    cases ej : js[i]? with
    | none => rw [ej] at e2; cases e2
    | some j =>
      rw [ej] at e2
      have hj : X.N[j]? = some y := Option.some.inj (show some (X.N[j]?) = some (some y) from e2)
      have e3 : (js.map (slotAt σ))[i]? = some (slotAt σ j) := by rw [List.getElem?_map, ej] <;> rfl
      rw [hws, List.getElem?_map] at e3
      cases ew : ws[i]? with
      | none => rw [ew] at e3; cases e3
      | some v =>
        rw [ew] at e3
        have ev : σ[j]? = some (some v) := slotAt_some (Option.some.inj e3).symm
        have hyf := hfr y (List.mem_of_getElem? e)
        have k := hfree (y, .free) hyf rfl
        obtain ⟨a, ha⟩ := hfr0 (y, .free) hyf rfl
        have ha : X.env.cells.lookup y = some a := ha
        have hcl : F.cl.lookup y = some a := by rw [hc]; exact clo_has hfr0 hyf ha
        obtain ⟨m, hn, hl⟩ := J.loc
        obtain ⟨u, r, l⟩ := hl j y v hj ev (k.elim (fun z => .inr (.inl z)) fun z => .inr (.inr z))
        rcases l with ⟨z, _⟩ | ⟨_, a', ha', o, ho, hd⟩
        · have z' : X.env.scope.names.lookup y = some .local := z
          have k : X.env.scope.names.lookup y = some .cell ∨ X.env.scope.names.lookup y = some .free := k
          rcases k with k | k <;> rw [k] at z' <;> cases z'
        · rw [ha] at ha'
          cases ha'
          exact ⟨a, v, hcl, rfl, o, u, by rw [put_in (mem_cs hcl)]; exact hHc a o ho, hd, r⟩
/-- the promise of a def that makes a function and gives it back: js, where the captured names stand among its parameters -/
def sMk (T : List NTab) (n : Nat) (js : List Nat) (fr : List Str) (G : List (Str × Addr) → Addr → MF) : Sp := fun vs H Q _ => vs.length = n ∧ TabsN T H ∧ ∀ (f c : Addr) (cl : List (Str × Addr)) (H' : Hp), H f = none → ExtN H H' → (∀ b, H' b = none → H b = none) → TabsN T H' →
  Clo H' f (G cl c) fr (js.map fun j => vs.getD j .non) → (∀ a ∈ (G cl c).cs, H a = none) → Q (.ref f) H'
section
variable {P : Program} {w : World} {K : PySem.W.Frag} {mg : Str → Option Value} {base : Heap} {x qual : Str} {params : Arguments} {body : List Stmt} {scope : Scope} {f : Addr} {fd : FuncData} {N ps fr : List Str} {T : List NTab} {nm : Nat → Nat → Str} {c0 Pt : Addr} {js : List Nat}
theorem mk_slots {i : Nat} {v : Option V} {vs : List V} (hl : vs.length = ps.length) (hj : ∀ j ∈ js, j < ps.length ∧ j ≠ i) : js.map (slotAt ((start N vs).set i v)) = (js.map fun j => vs.getD j .non).map some := by
  rw [List.map_map]
  refine List.map_congr_left fun j hm => ?_
  obtain ⟨h1, h2⟩ := hj j hm
  refine slotAt_of ?_
  rw [List.getElem?_set_ne (Ne.symm h2)]
  unfold L2.start
  have h3 : j < vs.length := by omega
  rw [List.getElem?_append_left (by rw [List.length_map]; exact h3), List.getElem?_map, List.getElem?_eq_getElem h3]
  show some (some vs[j]) = some (some (vs.getD j .non))
  rw [List.getD_eq_getElem?_getD, List.getElem?_eq_getElem h3] <;> rfl
theorem FunD.okMkDef {n : Str} {nst : Stmt} {i : Nat} {pos p1 p2 : Pos} (F : FunD K x qual params body scope [] [] f fd) (hbd : body = [nst, .Return (some (.Name n p1)) p2]) (hst : nst = .FunctionDef n (C8.fnArgs nst) (C8.fnBody nst) [] none [] (C8.fnScope nst) none n pos) (S : FnScope N ps scope)
    (hi : N[i]? = some n) (hx : Loc scope n) (hj : ∀ j ∈ js, j < ps.length ∧ j ≠ i) (hjs : js.map (fun j => N[j]?) = fr.map some) (hB : ndefB scope (C8.fnScope nst) fr = true) (hd0 : (C8.fnArgs nst).defaults = []) (hk0 : (C8.fnArgs nst).kw_defaults = []) (ha : ∀ env, annTrees (C8.fnArgs nst) none env = [])
    (TB : TabB base mg c0 Pt) (hc0 : ∀ c, CodeIs K f c → c = c0) (hm : (Pt, nm) ∈ T) (hn : nm pos.line pos.col = qual ++ ".<locals>." ++ n) (hu : ∀ p ∈ T, p.1 = Pt → p.2 = nm)
    (hd : (n == ("__debug__" : Str)) = false := by decide) (hcd : (n == ("__classdict__" : Str)) = false := by decide) :
    FnOk P w K mg base (L2.CX P w) 1 f fd ps (sMk T ps.length js fr fun cl c => ⟨n, qual ++ ".<locals>." ++ n, C8.fnArgs nst, .stmts (C8.fnBody nst), C8.fnScope nst, cl, c⟩) := by
  refine FunD.okRaw F S (fun vs H Q E h => h.1) fun c A outer s s1 H vs Q E hci hr h hok I => ?_
  obtain ⟨hl, hT, k⟩ := h
  obtain rfl := hc0 c hci
  rw [hbd]
  generalize hX : cxOf (L2.CX P w) P w K mg base N qual scope f (.ref c) A outer s H E = X at I
  have eq1 : X.env.qual = qual ++ ".<locals>." := by subst hX; rfl
  have hfree := ndef_free (sc := X.env.scope) (nsc := C8.fnScope nst) (fr := fr) (by subst hX; exact hB)
  have rule := ps_ndefMS (X := X) (T := T) (nm := nm) (c := c) (P := Pt) (i := i) hst (by subst hX; exact TB) (by subst hX; rfl) hm (by rw [hn, eq1]) hu hfree hd0 hk0 (ha _) (by subst hX; exact S.nd) (by subst hX; exact hi) (by subst hX; exact hx) (.inl (by subst hX; rfl))
  have hrun := rule.run [] s1 (start N vs) H { nx := fun σ' H' => ∃ (g c' : Addr), σ' = (start N vs).set i (some (.ref g)) ∧ H g = none ∧ ExtN H H' ∧ (∀ b, H' b = none → H b = none) ∧ TabsN T H' ∧ H' g = some (FnM g ⟨n, qual ++ ".<locals>." ++ n, C8.fnArgs nst, .stmts (C8.fnBody nst), C8.fnScope nst, cloFrom X.env.cells (C8.fnScope nst).names [], c'⟩) ∧ H' c' = some (CodeO c' (qual ++ ".<locals>." ++ n)), rt := fun _ _ => False } I ⟨hT, fun g c' H1 eN nn T1 f0 f1 c1 => ⟨g, c', rfl, f0, eN, nn, T1, by rw [eq1] at f1; exact f1, by rw [eq1] at c1; exact c1⟩⟩
  have key : wpAny (model X.prog X.w) X.A (execs [nst, .Return (some (.Name n p1)) p2] X.env) (fun fl s' => match fl with
        | .ret u => CE X.outer X.prog X.w X.H_0 X.s_0 Q u s'
        | .next => CE X.outer X.prog X.w X.H_0 X.s_0 Q .none s'
        | _ => False) X.xe s1 := by
    refine wpAny_execs_cons (thn hrun fun fl s2 q => ?_)
    cases fl with
    | ret v =>
      obtain ⟨_, _, _, _, _, z⟩ := q
      exact z.elim
    | brk =>
      obtain ⟨_, _, _, z⟩ := q
      exact z.elim
    | cont =>
      obtain ⟨_, _, _, z⟩ := q
      exact z.elim
    | next =>
      obtain ⟨σ', H1, I1, g, c', rfl, g0, eN, nn, T1, hg, hc'⟩ := q
      have hlen : i < (start N vs).length := by
        rw [show (start N vs).length = X.N.length by have := I.len; exact this]
        exact (List.getElem?_eq_some_iff.mp (show X.N[i]? = some n by subst hX; exact hi)).1
      have hsl : ((start N vs).set i (some (V.ref g)))[i]? = some (some (.ref g)) := List.getElem?_set_self hlen
      refine wpAny_execs_cons (wpAny_Return_some (thn ((pe_var (X := X) (pos := p1) (by subst hX; exact hi) (by subst hX; exact hx.elim .inl fun z => .inr (.inl z)) hd hcd).run [] s2 _ H1 (fun v H => v = .ref g ∧ H = H1) I1 ⟨.ref g, hsl, rfl, rfl⟩) fun u s3 ⟨v, H3, I3, r3, ev, eH⟩ => ?_))
      subst ev eH
      obtain rfl : u = Value.ref g := r3
      refine mk_end (F := ⟨n, qual ++ ".<locals>." ++ n, C8.fnArgs nst, .stmts (C8.fnBody nst), C8.fnScope nst, cloFrom X.env.cells (C8.fnScope nst).names [], c'⟩) (fr := fr) (js := js) (ws := js.map fun j => vs.getD j .non) I3 (by subst hX; rfl) (by subst hX; exact fun _ => rfl) (by subst hX; exact hok) rfl hfree (ndef_fr (sc := scope) hB) (by subst hX; exact hjs) (mk_slots hl hj) hg hc' fun H'' C e1 e2 => ?_
      have e0 : X.H_0 = H := by subst hX; rfl
      rw [e0] at e2
      have nb : ∀ b o, H b = some o → b ∉ (⟨n, qual ++ ".<locals>." ++ n, C8.fnArgs nst, .stmts (C8.fnBody nst), C8.fnScope nst, cloFrom X.env.cells (C8.fnScope nst).names [], c'⟩ : MF).cs := fun b o e z => by rw [(e2 b z).1] at e; cases e
      refine k g c' _ H'' g0 (fun b o e nt => ?_) (fun b e => ?_) (fun p hp => ?_) C fun a ha => (e2 a ha).1
      · rw [e1 b (nb b o e)]; exact eN b o e nt
      · by_cases hb : b ∈ (⟨n, qual ++ ".<locals>." ++ n, C8.fnArgs nst, .stmts (C8.fnBody nst), C8.fnScope nst, cloFrom X.env.cells (C8.fnScope nst).names [], c'⟩ : MF).cs
        · exact (e2 b hb).1
        · rw [e1 b hb] at e; exact nn b e
      · refine TabN.ext (T1 p hp) fun b o e => ?_
        by_cases hb : b ∈ (⟨n, qual ++ ".<locals>." ++ n, C8.fnArgs nst, .stmts (C8.fnBody nst), C8.fnScope nst, cloFrom X.env.cells (C8.fnScope nst).names [], c'⟩ : MF).cs
        · rw [(e2 b hb).2] at e; cases e
        · rw [e1 b hb]; exact e
  subst hX
  exact key
end
/-! ### calls of values -/
section
variable {X : Cx} {k : Nat} {x m : Str} {e : Expr} {es : List Expr} {t : TA} {te : TE} {p pos apos : Pos} {W : WX} {CV : Addr → Sp → Prop}
/-- the callee runs -/
theorem run_cle {f : Addr} {sp : Sp} {pins : List (Addr × Obj)} {σ : L2.St} {H : Hp} {s : Shared} {Q : VK} {us : List Value} {vs : List V} (C : Cle X.prog X.w X.K X.mg X.base k f sp) (hr : Room k X.A) (tk : Takes X W) (I : Inv X pins σ H s) (r : Vals vs us) (h : sp vs H Q (WE W σ)) :
    wpAny (model X.prog X.w) X.A (call (.ref f) us) (EP X pins σ Q) X.xe s := by
  refine wpAny_call (codeAny_mono (C.run X.A X.stack s H us vs Q (WE W σ) hr I.env0 r h) fun r s' hq => ?_)
  cases r with
  | error e => exact passAt tk σ pins H s e s' I hq
  | ok fl =>
    cases fl with
    | ret u => exact I.after hq
    | next => exact False.elim hq
    | brk => exact False.elim hq
    | cont => exact False.elim hq
/-- f(e, ..): f holds a function; CV: what is promised of it -/
def tCallV (CV : Addr → Sp → Prop) (E : L2.St → XK) (te : TE) (t : TA) : TE := fun σ H Q => te σ H fun x H1 => ∃ f F, x = .ref f ∧ H1 f = some (FnM f F) ∧ t σ H1 fun vs H2 => ∃ sp, CV f sp ∧ sp vs H2 Q (E σ)
theorem q_callV (hC : ∀ f sp, CV f sp → Cle X.prog X.w X.K X.mg X.base k f sp) (tk : Takes X W) (hr : Room k X.A) (hf : PE X (.Name x p) te) (ha : PA X (e :: es) t)
    (he : starEach (e :: es) X.env = (false, eval e X.env) :: starEach es X.env := by rfl) (hpl : (backTo pos (starEach es X.env)).any (·.1) = false := by rfl) :
    PE X (.Call (.Name x p) (e :: es) [] pos) (tCallV CV (WE W) te t) := by
  refine ⟨fun pins s σ H Q I h => ?_⟩
  refine wpAny_Call_Name_kw (thn (hf.run pins s σ H _ I h) fun u s1 ⟨v, H1, I1, rv, f, F, ev, ef, q⟩ => ?_)
  subst ev
  obtain rfl : u = Value.ref f := rv
  refine PySem.W.callWith_F (first := []) (fnM_fnAt I1.hok ef) (thn (ha.run pos pins s1 σ H1 _ I1 q) fun us s2 ⟨vs, H2, I2, r, sp, hc, q2⟩ => ⟨(hC f sp hc).fn vs H2 Q _ s2.heap q2 I2.hok, ?_⟩) he hpl
  exact run_cle (hC f sp hc) hr tk I2 r q2
/-- o.f(e, ..): f a field of an own instance that holds a function -/
def tCallF (K : PySem.W.Frag) (CV : Addr → Sp → Prop) (m : Str) (E : L2.St → XK) (te : TE) (t : TA) : TE := fun σ H Q => te σ H fun x H1 => ∃ a C dx fs f F, x = .ref a ∧ H1 a = some (.ins C dx fs) ∧ Cls K C ∧ NoAttr K C m ∧ fs.lookup m = some (.ref f) ∧ H1 f = some (FnM f F) ∧
  t σ H1 fun vs H2 => ∃ sp, CV f sp ∧ sp vs H2 Q (E σ)
theorem q_callF {o : Expr} {pl : Sem Bool} (hC : ∀ f sp, CV f sp → Cle X.prog X.w X.K X.mg X.base k f sp) (tk : Takes X W) (hr : Room k X.A) (ho : PE X o te) (ha : PA X (e :: es) t)
    (he : starEach (e :: es) X.env = (false, eval e X.env) :: starEach es X.env := by rfl) (hpl : (backTo pos (starEach es X.env)).any (·.1) = false := by rfl)
    (ht : eval (.Call (.Attribute o m apos) (e :: es) [] pos) X.env = (do
      let ov ← eval o X.env
      standAt apos.atName
      let (f, first) ← holding [ov] (getMethod ov m pl)
      callWith pos f first (backTo pos (starEach (e :: es) X.env)) (backToKw pos (keywordEach [] X.env))) := by rfl) :
    PE X (.Call (.Attribute o m apos) (e :: es) [] pos) (tCallF X.K CV m (WE W) te t) := by
  refine ⟨fun pins s σ H Q I h => ?_⟩
  refine PySem.W.methodCall_KW (pl := pl) (thn (ho.run pins s σ H _ I h) fun u s1 ⟨x, H1, I1, rx, a, C, dx, fs, f, F, ex, ea, c, n, l, ef, q⟩ => ?_) ht
  subst ex
  obtain rfl : u = Value.ref a := rx
  obtain ⟨mA, O, _⟩ := ins_get I1.hok ea
  obtain ⟨od, J, _⟩ := O.look
  have pg := PySem.W.plainGet_of (c.get m)
  refine PySem.W.method_usual I1.kIn J pg.1 pg.2 n rfl (getattr_ok I1 ea c n l fun u s2 I2 ru => ?_)
  obtain rfl : u = Value.ref f := ru
  refine PySem.W.callWith_F (first := []) (fnM_fnAt I2.hok ef) (thn (ha.run pos pins s2 σ H1 _ I2 q) fun us s3 ⟨vs, H2, I3, r, sp, hc, q2⟩ => ⟨(hC f sp hc).fn vs H2 Q _ s3.heap q2 I3.hok, ?_⟩) he hpl
  exact run_cle (hC f sp hc) hr tk I3 r q2
theorem arm_call_sub (a b : Expr) (p : Pos) (args : List Expr) (kws : List Keyword) (pos : Pos) (env : Env) : eval (.Call (.Subscript a b p) args kws pos) env = (do
    let f ← eval (.Subscript a b p) env
    callWith pos f [] (backTo pos (starEach args env)) (backToKw pos (keywordEach kws env))) := by rfl
/-- o[i](e, ..): an own instance that is called -/
theorem q_callOS {C : Addr} {a b : Expr} {ps : List Str} {sp : Sp} {ps0 : Pos} (M : MtC X.prog X.w X.K X.mg X.base k C "__call__" ps sp) (tk : Takes X W) (hr : Room (k + 1) X.A) (hf : PE X (.Subscript a b p) te) (ha : PA X (e :: es) t)
    (he : starEach (e :: es) X.env = (false, eval e X.env) :: starEach es X.env := by rfl) (hpl : (backTo pos (starEach es X.env)).any (·.1) = false := by rfl) :
    PE X (.Call (.Subscript a b p) (e :: es) [] pos) (tCallO C sp (WE W) te t) := by
  obtain ⟨f, fd, hm, hfn, hb, F⟩ := M.fn
  refine ⟨fun pins s σ H Q I h => ?_⟩
  rw [arm_call_sub]
  refine wpAny_bind (thn (hf.run pins s σ H _ I h) fun u s1 ⟨x, H1, I1, rx, a, dx, fs, ex, ea, q⟩ => ?_)
  subst ex
  obtain rfl : u = Value.ref a := rx
  show wpAny _ _ (callWith pos (.ref a) [] (backTo pos (starEach (e :: es) X.env)) []) _ _ _
  refine callWith_inst (by rw [he]; show (false || (backTo pos (starEach es X.env)).any (·.1)) = false; rw [hpl]; rfl) ?_
  have run := thn (ha.run pos pins s1 σ H1 _ I1 q) (Q' := fun us s2 => (∃ C ox od, ox.data = .plain ∧ PySem.W.InstAt s2.heap a ox C od) ∧ wpAny (model X.prog X.w) X.A (call (.ref a) us) (EP X pins σ Q) X.xe s2) fun us s2 ⟨vs, H2, I2, r, ⟨dx', fs', ea2⟩, q2⟩ => by
    obtain ⟨mA, O, _⟩ := ins_get I2.hok ea2
    obtain ⟨od, J, _⟩ := O.look
    refine ⟨⟨C, _, _, rfl, J⟩, ?_⟩
    have rr : Vals (V.ref a :: vs) (Value.ref a :: us) := Paired.cons rfl r
    have hl : (Value.ref a :: us).length = ps.length := by rw [← rr.length]; exact F.len _ _ _ _ q2
    have b := hb s2 (Value.ref a :: us) I2.kIn (by rw [List.append_nil]; exact hl)
    rw [List.append_nil] at b
    refine wpAny_call (PySem.W.kco_code (a := ⟨us, []⟩) I2.kIn J rfl hm.at_ hm.fn hfn ?_)
    refine codeAny_mono (F.run X.A X.stack s2 H2 ⟨Value.ref a :: us, []⟩ (Value.ref a :: us) (V.ref a :: vs) Q (WE W σ) (hr.mono (Nat.le_succ _)) I2.env0 b rr q2) fun r s' hq => ?_
    cases r with
    | error e => exact passAt tk σ pins H2 s2 e s' I2 hq
    | ok fl =>
      cases fl with
      | ret u => exact I2.after hq
      | next => exact False.elim hq
      | brk => exact False.elim hq
      | cont => exact False.elim hq
  rw [he] at run ⊢
  exact Calls.evalArgs_plain run
end
/-! ### try: statements / finally: suite -/
def tFinX (tb : WX → TS) (tf tfs : TS) (Wout : WX) : TS := fun D σ H => tb (wFin tfs Wout) { nx := fun σ1 H1 => tf D σ1 H1, rt := fun _ _ => False } σ H
section
variable {X : Cx} {body : List Stmt} {f₀ : Stmt} {fs : List Stmt} {pos : Pos} {tb : WX → TS} {tf tfs : TS} {Wout : WX}
theorem fin_nx {D : Ends} {pins : List (Addr × Obj)} {s : Shared} {σ : L2.St} {H : Hp} {E : Value → Shared → Prop} (hf : PSs X.nox (f₀ :: fs) tf) (I : Inv X pins σ H s) (h : tf D σ H) :
    wpAny (model X.prog X.w) X.A (execs (f₀ :: fs) X.env) (fun g s' => match g with
      | .next => SP X pins D .next s'
      | g => SP X pins D g s') E s := by
  refine wpAny_mono (hf.run pins s σ H D (I.wish _) h) (fun g s1 q => ?_) fun _ _ z => False.elim z
  have q' : SP X pins D g s1 := q.unwish
  cases g with
  | next => exact q'
  | ret w2 => exact q'
  | brk => exact q'
  | cont => exact q'
theorem ps_finX (hs : X.stack = X.env :: X.outer) (hf : X.env.frame = some X.env.locals) (hex : X.ex = []) (tk : Takes X Wout)
    (hb : ∀ (W : WX) (pn : List (Addr × Obj)) (xe : Value → Shared → Prop), Takes (X.tr pn xe) W → PassesOwn (model X.prog X.w) X.A X.env xe → PSs (X.tr pn xe) body (tb W))
    (hfin : PSs X.nox (f₀ :: fs) tf) (hsu : ∀ (a : Addr) (pn : List (Addr × Obj)), PSs (X.suite a pn) (f₀ :: fs) tfs) : PS X (.Try body [] [] (f₀ :: fs) pos) (tFinX tb tf tfs Wout) := by
  refine ⟨fun pins s σ H D I h => ?_⟩
  have ok := I.ok
  have hfr : X.A.frames = some (X.env :: X.outer) := by rw [ok.frames, hs]
  refine wpAny_Try_finally ?_
  refine wpAny_mono ((hb (wFin tfs Wout) (X.pn ++ pins) (fun x s₁ => wpAny (model X.prog X.w) X.A (noteFrame x X.env) (fun _ s₂ => FinallyRaised X.prog X.w X.A X.xe X.env (f₀ :: fs) (SP X pins D) x s₂) (FinallyRaised X.prog X.w X.A X.xe X.env (f₀ :: fs) (SP X pins D)) s₁)
    (fun u s' xx => ?_) PassesOwn.looking).run [] s σ H { nx := fun σ1 H1 => tf D σ1 H1, rt := fun _ _ => False } (I.toTry _) h) (fun g s1 z => ?_) (fun x s1 hx => hx)
  · exact fin_exc hs hf hex ok tk hsu xx
  · cases g with
    | next =>
      obtain ⟨σ1, H1, I1, q1⟩ := z
      exact wpAny_execs_nil (fin_nx hfin (I1.ofTry ok) q1)
    | ret w2 =>
      obtain ⟨_, _, _, _, _, q⟩ := z
      exact False.elim q
    | brk =>
      obtain ⟨_, _, _, q⟩ := z
      exact False.elim q
    | cont =>
      obtain ⟨_, _, _, q⟩ := z
      exact False.elim q
end
end NL
/-! {**d, k: v}. -/
namespace PySem
open Sem (wp)
section
variable {prog : Program} {w : World} {K : Type} [DecidableEq K] {knd : KeyKind prog w K} {A : Around} {E : Value → Shared → Prop} {s : Shared}
theorem nl_dictPut {d : Addr} {kvs : List (K × Value)} {k : K} {key v : Value} {Q : Unit → Shared → Prop} (hkey : knd.is k key = true) (hm : s.heap.DictOf knd d kvs)
    (hQ : ∀ h', h'.DictOf knd d (stored kvs k v) → Heap.SameBut d s.heap h' → Q () { s with heap := h' })
    (hsz : kvs.length ≤ sizeLine := by size_fits) :
    wpAny (model prog w) A (dictPut d (knd.hash k) key v) Q E s := by
  obtain ⟨o, es, ep, ho, hc, hd, hk, hp, hn⟩ := hm
  have hes : es.size ≤ sizeLine := by have e1 := hp.length; have e2 : es.toList.length = es.size := by simp
                                      omega
  unfold dictPut
  refine wpAny_bind (wpAny_dictFind_of hkey ho hd hk ?_)
  have hidx : (es.findIdx? fun e => knd.is k e.key) = kvs.findIdx? fun kv => decide (kv.1 = k) := by
    rw [← hp.findIdx k]; obtain ⟨l⟩ := es; simp
  cases hi : es.findIdx? fun e => knd.is k e.key with
  | some i =>
    refine wpAny_updateDict ho hd (hQ _ ⟨_, _, ep, Heap.get?_update_self _ ho (Obj.isFreed_of_dict (Obj.data_mapDict hd _)),
      hc.mapDict _, Obj.data_mapDict hd _, hk.modify _ _, ?_, ?_⟩ (Heap.SameBut.update ..))
    · rw [stored, if_pos (any_of_findIdx_some (hidx ▸ hi))]
      have hl : (es.toList.findIdx? fun e => knd.is k e.key) = some i := by rw [← hi]; obtain ⟨l⟩ := es; simp
      have := hp.modify hn hl v
      obtain ⟨l⟩ := es
      simpa using this
    · rw [stored, if_pos (any_of_findIdx_some (hidx ▸ hi)), keys_map_store]; exact hn
  | none =>
    have hnot : k ∉ kvs.map (·.1) := not_mem_of_findIdx_none (hidx ▸ hi)
    have hany : ¬ (kvs.any fun kv => decide (kv.1 = k)) = true := by
      rw [List.any_eq_true]; rintro ⟨kv, hkv, he⟩
      exact hnot (List.mem_map.mpr ⟨kv, hkv, of_decide_eq_true he⟩)
    refine wpAny_updateDictKeys (hz := hes) ho hd (hQ _ ⟨_, _, ep + 1, Heap.get?_update_self _ ho (Obj.isFreed_of_dict (Obj.data_mapDictKeys hd _)),
      hc.mapDictKeys _, Obj.data_mapDictKeys hd _, hk.push hkey _, ?_, ?_⟩ (Heap.SameBut.update ..))
    · rw [stored, if_neg hany]
      have := hp.append hkey (knd.hash k) v
      obtain ⟨l⟩ := es
      simpa using this
    · rw [stored, if_neg hany, List.map_append, List.nodup_append]
      refine ⟨hn, by simp, ?_⟩
      intro a ha b hb
      simp only [List.map_cons, List.map_nil, List.mem_singleton] at hb
      subst hb
      exact fun e => hnot (e ▸ ha)
theorem nl_mergeMapping {d o : Addr} {kvs more : List (K × Value)} {Q : Unit → Shared → Prop} (hdo : d ≠ o) (hoS : (o == sysModules) = false)
    (hd : s.heap.DictOf knd d kvs) (ho : s.heap.DictOf knd o more)
    (hQ : ∀ h', h'.DictOf knd d (merged kvs more) → h'.DictOf knd o more → Heap.SameBut d s.heap h' → Q () { s with heap := h' })
    (hsz : kvs.length + more.length ≤ sizeLine := by size_fits) :
    wpAny (model prog w) A (mergeMapping d (.ref o) false) Q E s := by
  obtain ⟨od, esd, epd, hod, hcd, hdd, hkd, hpd, hnd⟩ := id hd
  obtain ⟨oo, eso, epo, hoo, hco, hdo', hko, hpo, hno⟩ := id ho
  have hlen : more.length = eso.size := by rw [← hpo.length]; simp
  have loop : wpAny (model prog w) A (do
      let l ← dictEntries o
      have size : Nat := l.size
      let epoch ← dictEpoch o
      forIn (List.range size) PUnit.unit fun i (_ : PUnit) => (do
        let l' ← dictEntries o
        match l'[i]? with
          | some e => do
            holding [e.key, e.val] (dictPut d e.hash e.key e.val)
            let ep' ← dictEpoch o
            if (ep' != epoch) = true then do
                (unsupported "dict.changed-during-merge" : Sem PUnit)
                pure (ForInStep.yield PUnit.unit)
              else pure (ForInStep.yield PUnit.unit)
          | _ => do
            (unsupported "dict.changed-during-merge" : Sem PUnit)
            pure (ForInStep.yield PUnit.unit) : Sem (ForInStep PUnit))
      pure ()) Q E s := by
    refine wpAny_bind (wpAny_dictEntries hoo hdo' ?_)
    dsimp only
    refine wpAny_bind (wpAny_dictEpoch hoo hdo' ?_)
    refine wpAny_bind ?_
    rw [List.range_eq_range']
    refine wpAny_forIn_list _
      (fun rest _ s' => ∃ h' i, s' = { s with heap := h' } ∧ rest = List.range' i (eso.size - i) ∧ i ≤ eso.size ∧ h'.DictOf knd d (merged kvs (more.take i)) ∧ h'.get? o = some oo ∧ Heap.SameBut d s.heap h')
      _ ?_ ?_ _ _ ⟨s.heap, 0, rfl, by simp, Nat.zero_le _, by simpa [merged] using hd, hoo, Heap.SameBut.refl _ _⟩
    · rintro x rest b s' ⟨h', i, rfl, hr, hi, hd', hoo', hs'⟩
      have hlt : i < eso.size := by
        rcases Nat.lt_or_ge i eso.size with h | h
        · exact h
        · rw [Nat.sub_eq_zero_of_le h] at hr; simp at hr
      obtain ⟨rfl, hrest⟩ : x = i ∧ rest = List.range' (i + 1) (eso.size - (i + 1)) := by
        have e : eso.size - i = (eso.size - (i + 1)) + 1 := by omega
        rw [e, List.range'_succ] at hr
        injection hr with h1 h2
        exact ⟨h1, h2⟩
      refine wpAny_bind (wpAny_dictEntries hoo' hdo' ?_)
      rw [Array.getElem?_eq_getElem hlt]
      obtain ⟨kv, hkv⟩ : ∃ kv, more[x]? = some kv := ⟨more[x]'(by rw [hlen]; exact hlt), List.getElem?_eq_getElem _⟩
      obtain ⟨k, v⟩ := kv
      obtain ⟨hkey, hval⟩ := hpo.get? (e := eso[x]) (by simp [hlt]) hkv
      obtain ⟨k', hkey', hhash⟩ := hko eso[x] (Array.getElem_mem hlt)
      obtain rfl : k' = k := knd.inj _ _ _ hkey' hkey
      show wpAny _ _ (holding [eso[x].key, eso[x].val] (dictPut d eso[x].hash eso[x].key eso[x].val) >>= _) _ _ _
      rw [hhash, hval]
      have hmx : (merged kvs (more.take x)).length ≤ sizeLine := by
        have e1 := merged_length_le kvs (more.take x)
        have e2 : (more.take x).length ≤ more.length := by rw [List.length_take]; omega
        omega
      refine wpAny_bind (wpAny_holding (nl_dictPut (hsz := hmx) hkey hd' fun h'' hd'' hs'' => ?_))
      have hoo'' : h''.get? o = some oo := (hs''.2 o (Ne.symm hdo)).trans hoo'
      refine wpAny_bind (wpAny_dictEpoch hoo'' hdo' ?_)
      rw [if_neg (by simp)]
      exact wpAny_pure ⟨h'', x + 1, rfl, hrest, hlt, by rw [merged_take_succ kvs more x (k', v) hkv]; exact hd'', hoo'', hs'.trans hs''⟩
    · rintro b s' ⟨h', i, rfl, hr, hi, hd', hoo', hs'⟩
      have hin : i = eso.size := by
        rcases Nat.lt_or_ge i eso.size with h | h
        · have e : eso.size - i = (eso.size - (i + 1)) + 1 := by omega
          rw [e, List.range'_succ] at hr; exact nomatch hr
        · exact Nat.le_antisymm hi h
      refine wpAny_pure (hQ h' ?_ ⟨oo, eso, epo, hoo', hco, hdo', hko, hpo, hno⟩ hs')
      rw [hin, ← hlen, List.take_length] at hd'; exact hd'
  unfold mergeMapping
  refine wpAny_bind (wpAny_isInstance ho.typeIs isSubtype_dict_dict ?_)
  rw [if_pos rfl]
  refine wpAny_bind (wpAny_specialOf ho.typeIs F.slot_dict_iter.lookup ?_)
  refine wpAny_bind (wpAny_pure ?_)
  rw [beq_self_eq_true]
  dsimp only
  simp only [Bool.false_eq_true, if_false]
  rw [if_neg (show ¬ (o == sysModules) = true by rw [hoS]; exact Bool.false_ne_true)]
  refine wpAny_bind (wpAny_dictEntries hod hdd ?_)
  by_cases hemp : esd.isEmpty = true
  · rw [if_pos hemp]
    refine wpAny_bind (wpAny_dictEntries hoo hdo' ?_)
    have hloop : (forIn eso PUnit.unit fun (e : DictEntry) (_ : PUnit) => (match e.key with
        | .ref _ => do
          let v ← specialOf e.key "__eq__"
          if (v != some (Value.builtin "object.__eq__")) = true then
            if (Array.filter (fun x => x.hash == e.hash) eso).size > 1 then do
              (unsupported "dict.merge-into-an-empty-dict:keys-of-equal-hash" : Sem PUnit)
              pure (ForInStep.yield PUnit.unit)
            else pure (ForInStep.yield PUnit.unit)
          else pure (ForInStep.yield PUnit.unit)
        | _ => pure (ForInStep.yield PUnit.unit) : Sem (ForInStep PUnit))) = pure PUnit.unit := by
      rw [← Array.forIn_toList]
      refine forIn_yield_id _ fun e he c => ?_
      obtain ⟨k, hkey, _⟩ := hko e (Array.mem_toList_iff.mp he)
      have hb := knd.byValue k _ hkey
      cases hq : e.key with
      | ref a => rw [hq] at hb; exact absurd hb Bool.false_ne_true
      | _ => rfl
    refine wpAny_bind (wpAny_of_eq hloop ?_)
    exact loop
  · rw [if_neg hemp]
    exact loop
/-- {**e, k: v} -/
theorem nl_dispS {env : Env} {ee ke ve : Expr} {pos : Pos} {Q : Value → Shared → Prop}
    (h : wpAny (model prog w) A (eval ee env) (fun m s1 => ∃ (o : Addr) (more : List (K × Value)), m = .ref o ∧ s.heap.objs.size ≠ o ∧ (o == sysModules) = false ∧ s1.heap.DictOf knd s.heap.objs.size [] ∧ s1.heap.DictOf knd o more ∧ more.length ≤ 1000 ∧
      ∀ h2, h2.DictOf knd s.heap.objs.size more → Heap.SameBut s.heap.objs.size s1.heap h2 →
        wpAny (model prog w) A (eval ke env) (fun kv s4 => wpAny (model prog w) A (eval ve env) (fun vv s5 => ∃ k more2, knd.is k kv = true ∧ (h2.objs.size == sysModules) = false ∧ s.heap.objs.size ≠ h2.objs.size ∧ s5.heap.DictOf knd h2.objs.size [] ∧ s5.heap.DictOf knd s.heap.objs.size more2 ∧ more2.length ≤ 1000 ∧
          ∀ h6 h7, h6.DictOf knd h2.objs.size [(k, vv)] → Heap.SameBut h2.objs.size s5.heap h6 → h7.DictOf knd s.heap.objs.size (stored more2 k vv) → h7.DictOf knd h2.objs.size [(k, vv)] → Heap.SameBut s.heap.objs.size h6 h7 → ∀ tk, Q (.ref s.heap.objs.size) { s5 with heap := h7, toks := tk }) E s4) E
          { s1 with heap := h2.push { cls := .type "dict", data := .dict #[] } }) E { s with heap := s.heap.push { cls := .type "dict", data := .dict #[] } }) :
    wpAny (model prog w) A (eval (.Dict [none, some ke] [ee, ve] pos) env) Q E s := by
  rw [arm_eval_Dict]
  refine wpAny_bind (wpAny_standAt ?_)
  show wpAny _ _ (dictDisplay [(none, do let x ← eval ee env; standAt pos; pure x), (some (eval ke env), do let x ← eval ve env; standAt pos; pure x)]) _ _ _
  unfold dictDisplay
  dsimp only
  simp only [List.forIn_cons, List.forIn_nil, List.isEmpty_nil, if_true]
  refine wpAny_bind (wpAny_bind (wpAny_bind (wpAny_pure ?_)))
  dsimp only
  refine wpAny_bind (wpAny_alloc ?_)
  refine wpAny_bind (wpAny_holding (wpAny_bind (wpAny_mono h (fun m s1 hm => ?_) fun _ _ e => e)))
  obtain ⟨o, more, rfl, hne, hoS, hd, ho, hl, k⟩ := hm
  have hnd : (more.map (·.1)).Nodup := by
    obtain ⟨_, _, _, _, _, _, _, _, hn⟩ := id ho
    exact hn
  refine wpAny_bind (wpAny_standAt (wpAny_pure ?_))
  refine wpAny_bind (wpAny_onRaise (wpAny_tryCatch (wpAny_onRaise (wpAny_holding (nl_mergeMapping (hsz := by rw [sizeLine_eq, List.length_nil]; omega) hne hoS hd ho fun h2 e1 e2 e3 => ?_)))))
  rw [merged_nil_of_nodup more hnd] at e1
  refine wpAny_pure ?_
  simp only [List.nil_append, List.length_cons, List.length_nil, Nat.reduceAdd, Nat.reduceBEq, Bool.false_eq_true, if_false, List.isEmpty_cons]
  refine wpAny_bind (wpAny_pure (wpAny_pure ?_))
  simp only [List.isEmpty_cons, Bool.false_eq_true, if_false]
  refine wpAny_bind (wpAny_bind (wpAny_holding (wpAny_subDict (knd := knd) (by simp) ?_)))
  refine evalPairs_cons (wpAny_mono (k h2 e1 e3) (fun kv s4 h4 => ?_) fun _ _ e => e)
  refine wpAny_bind (wpAny_mono h4 (fun vv s5 h5 => ?_) fun _ _ e => e)
  refine wpAny_bind (wpAny_standAt (wpAny_pure (evalPairs_nil ?_)))
  obtain ⟨k0, more2, hk0, hS2, hne2, hq, hd5, hl2, k⟩ := h5
  refine ⟨[(k0, vv)], ⟨hk0, rfl, True.intro⟩, hq, fun h6 d6 sb6 => ?_⟩
  have d6' : h6.DictOf knd h2.objs.size [(k0, vv)] := d6
  refine wpAny_bind (wpAny_onRaise (wpAny_holding (nl_mergeMapping (hsz := by rw [sizeLine_eq, List.length_singleton]; omega) (by exact hne2) hS2 (hd5.sameBut sb6 (by exact hne2)) d6' fun h7 d7 d8 sb7 => ?_)))
  refine wpAny_pure (wpAny_pure ?_)
  exact k h6 h7 d6' sb6 d7 d8 sb7 _
end
end PySem
namespace NL
open PySem PySem.Spec PyProof.Rows L2 LamX NdefX
/-- {**e, k: v}: the new dict at p, another new one at q beside it -/
def tDispS (te tk tv : TE) : TE := fun σ H Q => ∀ p, H p = none → te σ (upd H p (.dK [])) fun x H1 => ∃ (o : Addr) (more : List (Key × V)), x = .ref o ∧ o ≠ p ∧ H1 p = some (.dK []) ∧ H1 o = some (.dK more) ∧ more.length ≤ 1000 ∧
  ∀ q, q ≠ p → upd H1 p (.dK more) q = none → tk σ (upd (upd H1 p (.dK more)) q (.dK [])) fun y H4 => tv σ H4 fun z H5 => ∃ k : Key, y = kV k ∧ H5 q = some (.dK []) ∧ H5 p = some (.dK more) ∧ Q (.ref p) (upd (upd H5 q (.dK [(k, z)])) p (.dK (mergeK more [(k, z)])))
theorem pe_dispS {X : Cx} {ee ke ve : Expr} {pos : Pos} {te tk tv : TE} (he : PE X ee te) (hk : PE X ke tk) (hv : PE X ve tv) : PE X (.Dict [none, some ke] [ee, ve] pos) (tDispS te tk tv) := by
  refine ⟨fun pins s σ H Q I q => ?_⟩
  have hn := I.hok.fresh (Nat.le_refl s.heap.objs.size)
  have I1 := I.laid (a := s.heap.objs.size) (o := .dK []) (h' := s.heap.push { cls := .type "dict", data := .dict #[] }) (t' := s.toks) (fun _ _ q => Heap.get?_push_of_some _ q) (Nat.le_refl _) (dk_empty s.heap I.big)
  refine nl_dispS (knd := mixKind X.prog X.w) (thn (he.run pins _ σ _ _ I1 (q _ hn)) fun m s1 ⟨x, H1, I1, rx, o, more, ex, nop, ep, eo, hl, k⟩ => ?_)
  subst ex
  obtain rfl : m = Value.ref o := rx
  obtain ⟨_, hdp, vs0, r0, dp⟩ := dk_of I1.hok ep
  cases r0
  obtain ⟨zo, hdo, vs, ro, do_⟩ := dk_of I1.hok eo
  refine ⟨o, vs, rfl, Ne.symm nop, hdo, dp, do_, by rw [← ro.length]; exact hl, fun h2 d2 sb2 => ?_⟩
  have he2 : ∃ q, h2.get? s.heap.objs.size = some q := let ⟨q, _, _, hq, _⟩ := d2; ⟨q, hq⟩
  have I2 : Inv X pins σ (upd H1 s.heap.objs.size (.dK more)) { s1 with heap := h2, toks := s1.toks } := d_write I1 (by rw [ep]; exact True.intro) sb2 he2 (dk_new zo hdp ro d2)
  have I3 := I2.laid (a := h2.objs.size) (o := .dK []) (h' := h2.push { cls := .type "dict", data := .dict #[] }) (t' := s1.toks) (fun _ _ q => Heap.get?_push_of_some _ q) (Nat.le_refl _) (dk_empty h2 I2.big)
  have hq := I2.hok.fresh (Nat.le_refl h2.objs.size)
  have nq : h2.objs.size ≠ s.heap.objs.size := fun z => by rw [z, upd_same] at hq; cases hq
  refine thn (hk.run pins _ σ _ _ I3 (k _ nq hq)) fun u4 s4 ⟨y, H4, I4, ry, q4⟩ => thn (hv.run pins s4 σ H4 _ I4 q4) fun u5 s5 ⟨z, H5, I5, rz, kk, ey, eq5, ep5, q5⟩ => ?_
  subst ey
  obtain ⟨_, hdq, vs0, r0, dq⟩ := dk_of I5.hok eq5
  cases r0
  obtain ⟨zp, hdp5, vp, rp, dp5⟩ := dk_of I5.hok ep5
  refine ⟨kk, vp, kV_is ry, hdq, Ne.symm nq, dq, dp5, by rw [← rp.length]; exact hl, fun h6 h7 d6 sb6 d7 d8 sb7 tk => ?_⟩
  have he6 : ∃ q, h6.get? h2.objs.size = some q := let ⟨q, _, _, hq, _⟩ := d6; ⟨q, hq⟩
  have I6 : Inv X pins σ (upd H5 h2.objs.size (.dK [(kk, z)])) { s5 with heap := h6, toks := s5.toks } := d_write I5 (by rw [eq5]; exact True.intro) sb6 he6 (dk_new (by rw [sizeLine_eq, List.length_singleton]; omega) hdq (.cons ⟨rfl, rz⟩ .nil) d6)
  have he7 : ∃ q, h7.get? s.heap.objs.size = some q := let ⟨q, _, _, hq, _⟩ := d7; ⟨q, hq⟩
  have hz : (mergeK more [(kk, z)]).length ≤ sizeLine := by
    have h1 := length_mergeK [(kk, z)] more
    rw [List.length_singleton] at h1
    rw [sizeLine_eq]; omega
  have rm : KV (mergeK more [(kk, z)]) (stored vp kk u5) := KV.merge (more := [(kk, z)]) (rs := [(kk, u5)]) (.cons ⟨rfl, rz⟩ .nil) rp
  have I7 : Inv X pins σ (upd (upd H5 h2.objs.size (.dK [(kk, z)])) s.heap.objs.size (.dK (mergeK more [(kk, z)]))) { s5 with heap := h7, toks := tk } := d_write (s := { s5 with heap := h6, toks := s5.toks }) I6 (by rw [upd_ne (Ne.symm nq), ep5]; exact True.intro) sb7 he7 (dk_new hz hdp rm d7)
  exact ⟨.ref s.heap.objs.size, _, I7, rfl, q5⟩
end NL
/-! for within a generator's body. -/
namespace PySem
open Sem (wp)
section
variable {M : Model} {A : Around} {R : GenEnd} {Y : Protocol} {n : Nat} {s₀ : Shared} {c : Code} {fs : List Frame} {s : Shared} {env : Env}
  {K : Flow → Sem Fin} {H : Value → Sem Fin} {gd : Bool → Bool} {lv : List Value → List Value}
theorem nl_seg_For {target iter : Expr} {body orelse : List Stmt} {pos : Pos}
    (h : wpAny M (A.over c fs) (eval iter env) (fun x s1 => wpAny M (A.over c fs) (pyIter x) (fun it s2 => ∀ p, Seg M A R Y n s₀ (.forLoop target it body orelse env) (M.den (.forLoop target it body orelse env))
      (.ret (fun r => ((match r with | .ok f => (.pure f : Sem Flow) | .error e => .raise e).onRaise fun (x : Value) => do
        if (← field x 1) == Value.none then unsupported "frame.own-activation:exception-without-traceback"
        setFlight x env.frame).wrap K H gd lv) none (gd false) (lv []) c p [] :: fs) s2) (fun e s' => Seg M A R Y n s₀ c (H e) fs s') s1) (fun e s' => Seg M A R Y n s₀ c (H e) fs s') s)
    (hs : ∀ x, foldedSetIterable iter env x = pure x := by intro _; rfl) :
    Seg M A R Y n s₀ c ((exec (.For target iter body orelse pos) env).wrap K H gd lv) fs s := by
  rw [exec_For]
  refine seg_bind_wrap (wpAny_standAt ?_)
  refine seg_bind_wrap (wpAny_mono h (fun x s1 h1 => ?_) fun _ _ e => e)
  refine seg_bind_wrap (wpAny_of_eq (hs x) ?_)
  refine seg_bind_wrap (wpAny_standAt ?_)
  refine seg_bind_wrap (wpAny_holding (wpAny_mono h1 (fun it s2 h2 => ?_) fun _ _ e => e))
  exact seg_call h2
end
section
variable {prog : Program} {w : World} {A : Around} {R : GenEnd} {Y : Protocol} {n : Nat} {s₀ : Shared} {fs : List Frame} {s : Shared} {env : Env}
theorem nl_seg_forLoop {target : Expr} {it : Value} {body : List Stmt}
    (h : wpAny (model prog w) (A.over (.forLoop target it body [] env) fs) (pyNext it) (fun r s1 => match r with
        | none => Seg (model prog w) A R Y n s₀ (.forLoop target it body [] env) (.pure (.again (.block [] env))) fs s1
        | some v => wpAny (model prog w) (A.over (.forLoop target it body [] env) fs) (letOwnedTupleGo target it v) (fun _ s2 => wpAny (model prog w) (A.over (.forLoop target it body [] env) fs) (assign target env v) (fun _ s3 =>
          Seg (model prog w) A R Y n s₀ (.forLoop target it body [] env) ((execs body env).wrap (fun f => match f with
            | .next | .cont => .pure (.again (.forLoop target it body [] env))
            | .brk => .pure (.done .next)
            | .ret v => .pure (.done (.ret v))) (fun e => (do noteFrame e env; theTreesLotGoes e : Sem Unit).wrap (fun _ => .raise e) .raise id id) id id) fs s3)
          (fun x s' => Seg (model prog w) A R Y n s₀ (.forLoop target it body [] env) ((do noteFrame x env; theTreesLotGoes x : Sem Unit).wrap (fun _ => .raise x) .raise id id) fs s') s2)
          (fun x s' => Seg (model prog w) A R Y n s₀ (.forLoop target it body [] env) ((do noteFrame x env; theTreesLotGoes x : Sem Unit).wrap (fun _ => .raise x) .raise id id) fs s') s1)
      (fun x s' => Seg (model prog w) A R Y n s₀ (.forLoop target it body [] env) ((do noteFrame x env; theTreesLotGoes x : Sem Unit).wrap (fun _ => .raise x) .raise id id) fs s') s) :
    Seg (model prog w) A R Y n s₀ (.forLoop target it body [] env) ((model prog w).den (.forLoop target it body [] env)) fs s := by
  show Seg _ A R Y n s₀ _ ((forTurn target it body [] env).onRaise (fun x => do noteFrame x env; theTreesLotGoes x)) fs s
  rw [Sem.onRaise_eq_wrap]
  unfold forTurn
  refine seg_bind_wrap (wpAny_standAt ?_)
  refine seg_bind_wrap (wpAny_onRaise (wpAny_mono h (fun r s1 h1 => ?_) fun x s' hx => wpAny_standAt ?_))
  · cases r with
    | none => exact h1
    | some v =>
      refine seg_bind_wrap (wpAny_mono h1 (fun _ s2 h2 => ?_) fun x s' hx => ?_)
      · refine seg_bind_wrap (wpAny_mono h2 (fun _ s3 h3 => ?_) fun x s' hx => ?_)
        · rw [Sem.bind_eq_wrap', Sem.wrap_wrap]
          rw [Sem.wrap_congr (execs body env) _ _ (K' := fun f => match f with
            | .next | .cont => .pure (.again (.forLoop target it body [] env))
            | .brk => .pure (.done .next)
            | .ret v => .pure (.done (.ret v))) (H' := (fun e => (do noteFrame e env; theTreesLotGoes e : Sem Unit).wrap (fun _ => .raise e) .raise id id))
            (fun f => by cases f <;> rfl)
            (fun e => by first | exact Sem.bind_eq_wrap _ _ | (show (do noteFrame e env; theTreesLotGoes e : Sem Unit).bind (fun _ => .raise e) = _; rw [Sem.bind_eq_wrap]))]
          exact h3
        · first | exact hx | (rw [← Sem.bind_eq_wrap] at hx; exact hx)
      · first | exact hx | (rw [← Sem.bind_eq_wrap] at hx; exact hx)
  · first | exact hx | (rw [← Sem.bind_eq_wrap] at hx; exact hx)
end
end PySem
namespace NL
open PySem PySem.Spec PyProof.Rows L2 GenW
def tGFor (wi : TI) (g : TG) (tb : TGn) : TGn := fun D ys σ H => wi σ H fun J H1 => ∃ W : Nat → Nat → List V → L2.St → Hp → Prop, (∃ m, W 0 m ys σ H1) ∧ ∀ i m ys σ H, W i m ys σ H →
  (J.stop i H ∧ D.nx ys σ H) ∨ (J.go i H ∧ ∃ N : List V → L2.St → Hp → Prop, (∀ ys' σ' H', N ys' σ' H' → ∃ m', m' < m ∧ W (i + 1) m' ys' σ' H') ∧ ∀ x H', J.yld i H x H' → g x σ H' fun σ2 H2 => tb { D with nx := N, ct := N, bk := D.nx } ys σ2 H2)
theorem gs_for {X : Cx} {tg iter : Expr} {body : List Stmt} {wi : TI} {g : TG} {tb : TGn} {pos : Pos} (hp : PassesOwn (model X.prog X.w) X.A X.env X.xe) (hc : X.calm = true) (hi : PI X tg iter wi) (hg : PG X tg g) (hb : GSs X body tb)
    (hs : ∀ x, foldedSetIterable iter X.env x = pure x := by intro _; rfl) : GS X (.For tg iter body [] pos) (tGFor wi g tb) := by
  refine ⟨fun A S ip R n ys s₀ c fs K J gd lv s σ H D gc hn k hI ht => ?_⟩
  obtain ⟨acc, cc, r, I⟩ := hI
  refine PySem.nl_seg_For ?_ hs
  rw [gc.over]
  refine wpAny_mono (hi.run _ s σ H _ I ht) (fun v s1 h1 => ?_) (fun x s' hx => k.exc n s₀ x s' hx)
  refine wpAny_mono h1 (fun itv s2 h2 p => ?_) (fun x s' hx => k.exc n s₀ x s' hx)
  obtain ⟨it, fp, tn, Jt, H2, rfl, I2, T, st2, f2, W, ⟨m0, w0⟩, turn⟩ := h2
  have stat : ∀ (acc' : Array Value) (c' : Nat) {H' : Hp}, (∀ b ∈ fp, H' b = none) → ∀ b ∈ fp, FpOk X ((S, lstObj acc' c') :: ip) H' b := fun acc' c' H' hn b hb => by
    obtain ⟨_, a1, a2, a3, a4, a5⟩ := f2 b hb
    refine ⟨hn b hb, a1, a2, a3, a4, fun p hp => ?_⟩
    rcases List.mem_append.mp hp with hp | hp
    · exact a5 p (List.mem_append_left _ hp)
    · rcases List.mem_cons.mp hp with rfl | hp
      · exact a5 (S, lstObj acc cc) (List.mem_append_right _ List.mem_cons_self)
      · exact a5 p (List.mem_append_right _ (List.mem_cons_of_mem _ hp))
  have gl := fun (kk : Result → Sem PySem.Fin) => gc_loop (k := kk) (c' := .forLoop tg (.ref it) body [] X.env) (l := lv []) (kp := []) (p := p) gc rfl rfl
  have loop : ∀ (m i n : Nat) (ys : List V) (s₀ s : Shared) (σ : L2.St) (H : Hp), n + ys.length = sizeLine → W i m ys σ H → GI X S ip ys σ H s → tn i s.heap → (∀ b ∈ fp, H b = none) →
      Seg (model X.prog X.w) A R (GY X S) n s₀ (.forLoop tg (.ref it) body [] X.env) ((model X.prog X.w).den (.forLoop tg (.ref it) body [] X.env))
        (.ret (fun r => ((match r with | .ok f => (.pure f : Sem Flow) | .error e => .raise e).onRaise (cameBack X.env)).wrap K J gd lv) none (gd false) (lv []) c p [] :: fs) s := by
    intro m
    induction m using Nat.strongRecOn with
    | ind m ih =>
      intro i n ys s₀ s σ H hn w hI st fr
      have ee : ∀ (n : Nat) (s₀ : Shared) (x : Value) (s' : Shared), X.xe x s' → Seg (model X.prog X.w) A R (GY X S) n s₀ (.forLoop tg (.ref it) body [] X.env)
          ((do noteFrame x X.env; theTreesLotGoes x : Sem Unit).wrap (fun _ => .raise x) .raise id id)
          (.ret (fun r => ((match r with | .ok f => (.pure f : Sem Flow) | .error e => .raise e).onRaise (cameBack X.env)).wrap K J gd lv) none (gd false) (lv []) c p [] :: fs) s' := fun n s₀ x s' hx => by
        refine seg_wrap ?_
        rw [(gl _).over]
        refine wpAny_bind (wpAny_mono (hp x s' hx) (fun _ s'' hcb => wpAny_theTreesLotGoes ?_) fun y s'' hcb => ?_)
        · exact seg_leaf (.error x) (seg_cameBack gc k hcb)
        · exact seg_leaf (.error y) (seg_cameBack gc k hcb)
      refine PySem.nl_seg_forLoop ?_
      rw [(gl _).over]
      obtain ⟨acc, cc, r, I⟩ := hI
      rcases turn i m ys σ H w with ⟨stop, qn⟩ | ⟨go, N, hN, step⟩
      · refine wpAny_mono (T.done X rfl rfl rfl hc i _ s σ H X.xe I (stat acc cc fr) st stop) (fun r1 s4 ⟨hr, I4⟩ => ?_) fun x s' hx => ee n s₀ x s' hx
        subst hr
        refine seg_again rfl ?_
        exact seg_leaf (.ok .next) (k.ok n ys s₀ s4 .next hn ⟨σ, H, ⟨acc, cc, r, I4⟩, qn⟩)
      · refine wpAny_mono (T.item X rfl rfl rfl hc i _ s σ H X.xe I (stat acc cc fr) st go) (fun r1 s4 ⟨u, hr, h4⟩ => ?_) fun x s' hx => ee n s₀ x s' hx
        subst hr
        refine wpAny_mono h4 (fun _ s5 ⟨x, H5, I5, r5, y5, st5, fr5⟩ => ?_) fun x s' hx => ee n s₀ x s' hx
        have I5' := I5.pinned (stat acc cc fr5) (T.obj _ _ st5)
        refine wpAny_mono (hg.run _ s5 σ H5 x u _ I5' r5 (step x H5 y5)) (fun _ s6 ⟨σ6, H6, I6, q6⟩ => ?_) fun x s' hx => ee n s₀ x s' hx
        have nip : ∀ q ∈ ip ++ pinsAt fp s5.heap, q.1 ≠ S := fun q hq => by
          rcases List.mem_append.mp hq with hq | hq
          · exact gc.ip q hq
          · obtain ⟨hb, _⟩ := of_pinsAt hq
            exact fun z => (stat acc cc fr5 q.1 hb).2.2.2.2.2 (S, lstObj acc cc) (List.mem_append_right _ List.mem_cons_self) z.symm
        have gl2 : GC X S (ip ++ pinsAt fp s5.heap) A (.forLoop tg (.ref it) body [] X.env) (.ret (fun r => ((match r with | .ok f => (.pure f : Sem Flow) | .error e => .raise e).onRaise (cameBack X.env)).wrap K J gd lv) none (gd false) (lv []) c p [] :: fs) id :=
          ⟨gc.pn, nip, gc.apart, (gl _).over, (gl (fun r => ((match r with | .ok f => (.pure f : Sem Flow) | .error e => .raise e).onRaise (cameBack X.env)).wrap K J gd lv)).split, (gl (fun r => ((match r with | .ok f => (.pure f : Sem Flow) | .error e => .raise e).onRaise (cameBack X.env)).wrap K J gd lv)).guard, rfl⟩
        refine hb.run A S (ip ++ pinsAt fp s5.heap) R n ys s₀ _ _ _ _ id id s6 σ6 H6 { D with nx := N, ct := N, bk := D.nx } gl2 hn ⟨fun n' ys' s₀' s7 f hn' hs => ?_, fun n' s₀' x s3 hx => ee n' s₀' x s3 hx⟩ ⟨acc, cc, r, I6⟩ q6
        have again : ∀ {σ7 : L2.St} {H7 : Hp}, GI X S (ip ++ pinsAt fp s5.heap) ys' σ7 H7 s7 → N ys' σ7 H7 → Seg (model X.prog X.w) A R (GY X S) n' s₀' (.forLoop tg (.ref it) body [] X.env) (.pure (.again (.forLoop tg (.ref it) body [] X.env)))
            (.ret (fun r => ((match r with | .ok f => (.pure f : Sem Flow) | .error e => .raise e).onRaise (cameBack X.env)).wrap K J gd lv) none (gd false) (lv []) c p [] :: fs) s7 := fun {σ7 H7} ⟨acc7, cc7, r7, I7⟩ n7 => by
          obtain ⟨m', hm, w7⟩ := hN ys' σ7 H7 n7
          have I7' : Inv X (((S, lstObj acc7 cc7) :: ip) ++ pinsAt fp s5.heap) σ7 H7 s7 := I7
          refine seg_again rfl (ih m' hm (i + 1) n' ys' s₀' s7 σ7 H7 hn' w7 ⟨acc7, cc7, r7, I7'.unpinned⟩ (T.keep _ _ _ st5 fun b hb o e => (I7'.pin (b, o) (List.mem_append_right _ (List.mem_append_right _ (mem_pinsAt hb e)))).1) fun b hb => ?_)
          obtain ⟨o, e, d⟩ := T.obj _ _ st5 b hb
          exact (I7'.pin (b, o) (List.mem_append_right _ (List.mem_append_right _ (mem_pinsAt hb e)))).2.1
        have less : ∀ {ys' : List V} {σ7 : L2.St} {H7 : Hp}, GI X S (ip ++ pinsAt fp s5.heap) ys' σ7 H7 s7 → GI X S ip ys' σ7 H7 s7 := fun ⟨acc7, cc7, r7, I7⟩ => by
          have I7' : Inv X (((S, lstObj acc7 cc7) :: ip) ++ pinsAt fp s5.heap) _ _ s7 := I7
          exact ⟨acc7, cc7, r7, I7'.unpinned⟩
        cases f with
        | next => obtain ⟨σ7, H7, I7, n7⟩ := hs; exact again I7 n7
        | cont => obtain ⟨σ7, H7, I7, n7⟩ := hs; exact again I7 n7
        | brk =>
          obtain ⟨σ7, H7, I7, q7⟩ := hs
          exact seg_leaf (.ok .next) (k.ok n' ys' s₀' s7 .next hn' ⟨σ7, H7, less I7, q7⟩)
        | ret v =>
          obtain ⟨x7, σ7, H7, I7, r7, q7⟩ := hs
          exact seg_leaf (.ok (.ret v)) (k.ok n' ys' s₀' s7 (.ret v) hn' ⟨x7, σ7, H7, less I7, r7, q7⟩)
  exact loop m0 0 n ys s₀ s2 σ H2 hn w0 ⟨acc, cc, r, I2⟩ st2 fun b hb => (f2 b hb).1
end NL
/-! Properties, len of an own object, keyword-only defaults, `*args` of a constructor: what the brokers want. -/
namespace NL
open PySem PySem.Spec PyProof.Rows L2
/-- the j-th statement of a def's body -/
def inDef (s : Stmt) (j : Nat) : Stmt := (defBody s).getD j (.Pass ⟨0, 0, 0, 0⟩)
/-! ### a property read -/
structure PrC (P : Program) (w : World) (K : PySem.W.Frag) (mg : Str → Option Value) (base : Heap) (k : Nat) (C : Addr) (m : Str) (ps : List Str) (sp : Sp) : Prop where
  c : Cls K C
  fn : ∃ (p g : Addr) (fd : FuncData), PropOf K C m p g ∧ Binds K fd ps [] ∧ FnOk P w K mg base (L2.CX P w) k g fd ps sp
section
variable {X : Cx} {k : Nat} {C : Addr} {m : Str} {a e o : Expr} {ta : TE} {p pos apos : Pos} {ps : List Str} {sp : Sp} {W : WX}
def tPropS (C : Addr) (sp : Sp) (ta : TE) : TE := fun σ H Q => ta σ H fun x H1 => ∃ a dx fs, x = .ref a ∧ H1 a = some (.ins C dx fs) ∧ sp [.ref a] H1 Q fun _ _ _ => False
theorem q_prop (M : PrC X.prog X.w X.K X.mg X.base k C m ps sp) (hr : Room (k + 1) X.A) (he : PE X o ta) (hab : attributeBase o m X.env (eval o X.env) = eval o X.env := by rfl) : PE X (.Attribute o m pos) (tPropS C sp ta) := by
  obtain ⟨p, g, fd, hp, hb, F⟩ := M.fn
  exact pe_prop (CX := L2.CX X.prog X.w) (E := fun _ _ _ => False) he M.c hp F hr hb .nil (fun pins σ H s e s' I h => by
    obtain ⟨_, _, _, _, _, _, _, _, _, _, _, q⟩ := h
    exact q.2.elim) hab
theorem g_prop {σ : L2.St} {H : Hp} {Q : VK} (h : ta σ H fun x H1 => ∃ a dx fs, x = .ref a ∧ H1 a = some (.ins C dx fs) ∧ sp [.ref a] H1 Q fun _ _ _ => False) : tPropS C sp ta σ H Q := h
/-! ### len of an own object -/
def tLenO (C : Addr) (sp : Sp) (E : L2.St → XK) (ta : TE) : TE := fun σ H Q => ta σ H fun x H1 => ∃ c dx fs, x = .ref c ∧ H1 c = some (.ins C dx fs) ∧ sp [.ref c] H1 (fun v H2 => ∃ n : Nat, v = .int n ∧ n < 2 ^ 63 ∧ Q (.int n) H2) (E σ)
theorem q_lenO (M : MtC X.prog X.w X.K X.mg X.base k C "__len__" ps sp) (tk : Takes X W) (hr : Room (k + 1) X.A) (ha : PE X a ta) (hm : X.mg "len" = none) (hg : Gl X "len" := by rfl) (he : starEach [a] X.env = (false, eval a X.env) :: starEach [] X.env := by rfl) (hpl : (backTo pos (starEach [] X.env)).any (·.1) = false := by rfl) :
    PE X (.Call (.Name "len" p) [a] [] pos) (tLenO C sp (WE W) ta) := by
  obtain ⟨f, fd, mt, fnI, hb, F⟩ := M.fn
  refine ⟨fun pins s σ H Q I h => ?_⟩
  refine wpAny_Call_Name_kw (ld_blt I hg hm bt_len ?_ (by decide) (by decide))
  refine PyProof.Rows.callWith_builtin1 (thn ((pa_cons ha pa_nil he).run pos pins s σ H (fun vs H1 => ∃ c dx fs, vs = [.ref c] ∧ H1 c = some (.ins C dx fs) ∧ sp [.ref c] H1 (fun v H2 => ∃ n : Nat, v = .int n ∧ n < 2 ^ 63 ∧ Q (.int n) H2) (WE W σ)) I ?_) fun us s1 q => ?_) he hpl
  · show ta σ H fun v H1 => ∃ c dx fs, [v] = [.ref c] ∧ _
    have e : (fun v H1 => ∃ c dx fs, [v] = [V.ref c] ∧ H1 c = some (.ins C dx fs) ∧ sp [.ref c] H1 (fun v H2 => ∃ n : Nat, v = .int n ∧ n < 2 ^ 63 ∧ Q (.int n) H2) (WE W σ)) = fun x (H1 : Hp) => ∃ c dx fs, x = .ref c ∧ H1 c = some (.ins C dx fs) ∧ sp [.ref c] H1 (fun v H2 => ∃ n : Nat, v = .int n ∧ n < 2 ^ 63 ∧ Q (.int n) H2) (WE W σ) := by
      funext x H1
      simp only [List.cons.injEq, and_true]
    rw [e]
    exact h
  · obtain ⟨vs, H1, I1, r, c, dx, fs, rfl, hc, q⟩ := q
    obtain ⟨u, rfl, rx⟩ := vals1 r
    obtain rfl : u = Value.ref c := rx
    obtain ⟨od, J⟩ := inst_of I1 hc
    have fr := run_in1 (us := [.ref c]) (vs := [.ref c]) (W := W) F hr hb tk I1 (.cons rfl .nil) q
    refine Calls.call_function_entry PySem.kind_len PySem.plain_len PySem.entry_len (PySem.args_len1 _) ?_
    unfold Builtin.«len»
    refine wpAny_bind (m := PySem.oneArg "len" _) (wpAny_pure ?_)
    refine wpAny_bind (m := PySem.callSpecial? (.ref c) (Str.ofString "__len__")) (PySem.W.special_fn I1.kIn J mt.at_ (beq_iff_eq.mp mt.fn) (wpAny_mono fr (fun r s' hr => ?_) fun _ _ y => y))
    obtain ⟨z, H', I', rz, n, ez, hn, qz⟩ := hr
    subst ez
    obtain ⟨u, rfl⟩ := rz
    refine wpAny_bind (wpAny_holding (wpAny_pure ?_))
    refine wpAny_bind (wpAny_letGo ?_)
    show wpAny _ _ (if (n : Int) < 0 then _ else _) _ _ _
    rw [if_neg (by omega)]
    show wpAny _ _ (if (n : Int) ≥ 2 ^ 63 then _ else _) _ _ _
    rw [if_neg (by omega)]
    exact wpAny_bind (wpAny_mkInt (wpAny_pure ⟨_, rfl, .int n, H', I'.tok _, ⟨_, rfl⟩, qz⟩))
theorem g_lenO {E : L2.St → XK} {σ : L2.St} {H : Hp} {Q : VK} (h : ta σ H fun x H1 => ∃ c dx fs, x = .ref c ∧ H1 c = some (.ins C dx fs) ∧ sp [.ref c] H1 (fun v H2 => ∃ n : Nat, v = .int n ∧ n < 2 ^ 63 ∧ Q (.int n) H2) (E σ)) : tLenO C sp E ta σ H Q := h
end
/-! ### a method whose keyword-only parameter has a default -/
structure MtD (P : Program) (w : World) (K : PySem.W.Frag) (mg : Str → Option Value) (base : Heap) (k : Nat) (C : Addr) (m : Str) (ps : List Str) (dvs : List V) (sp : Sp) : Prop where
  c : Cls K C
  fn : ∃ (f : Addr) (fd : FuncData) (ds : List Value), Meth K C m f ∧ Vals dvs ds ∧ Binds K fd ps ds ∧ FnOk P w K mg base (L2.CX P w) k f fd ps sp
theorem kbn_plainK {K : PySem.W.Frag} {x qual : Str} {params : Arguments} {body : List Stmt} {scope : Scope} {kws : List (Str × V)} {f : Addr} {fd : FuncData} {ps : List Str} (F : FunD K x qual params body scope [] kws f fd) (n : Nat) (ks : List Str)
    (h : ∀ (kV doc pm : Value) (an : Option Addr) (cdv ct : Value) (us ws : List Value), us.length = n → ws.length = ks.length → bindArgs (PySem.W.fnOf x qual params body scope .none kV doc pm an cdv ct) ⟨us, ks.zip ws⟩ = pure (ps.zip (us ++ ws))) : KBn K fd ps n ks (fun us ws => us ++ ws) (fun vs zs => vs ++ zs) := by
  obtain ⟨oc, od, dV, kV, doc, pm, an, cdv, ct, osl, rfl, lk, hcd, hD, hK⟩ := F.ex
  rcases hD with ⟨_, rfl⟩ | ⟨e, _⟩
  · exact ⟨fun s us ws _ l1 l2 => .of_eq (h kV doc pm an cdv ct us ws l1 l2), fun r1 r2 => r1.append r2⟩
  · exact absurd rfl e
section
variable {X : Cx} {k n : Nat} {C : Addr} {x m : Str} {o e : Expr} {es : List Expr} {kws : List Keyword} {t tk : TA} {ta : TE} {p pos apos : Pos} {ps ks : List Str} {sp : Sp} {dvs : List V} {W : WX}
theorem run_fnD {f : Addr} {fd : FuncData} {ds us : List Value} {vs : List V} {pins : List (Addr × Obj)} {σ : L2.St} {H : Hp} {s : Shared} {Q : VK} (F : FnOk X.prog X.w X.K X.mg X.base (L2.CX X.prog X.w) k f fd ps sp) (hr : Room k X.A) (hb : Binds X.K fd ps ds) (hd : Vals dvs ds) (tk : Takes X W) (I : Inv X pins σ H s) (r : Vals vs us) (h : sp (vs ++ dvs) H Q (WE W σ)) :
    wpAny (model X.prog X.w) X.A (call (.ref f) us) (EP X pins σ Q) X.xe s := by
  have r2 := r.append hd
  have hl : (us ++ ds).length = ps.length := by rw [← r2.length]; exact F.len _ _ _ _ h
  refine wpAny_call (codeAny_mono (F.run X.A X.stack s H ⟨us, []⟩ (us ++ ds) (vs ++ dvs) Q (WE W σ) hr I.env0 (hb s us I.kIn hl) r2 h) fun r s' hq => ?_)
  cases r with
  | error e => exact passAt tk σ pins H s e s' I hq
  | ok fl =>
    cases fl with
    | ret u => exact I.after hq
    | next => exact False.elim hq
    | brk => exact False.elim hq
    | cont => exact False.elim hq
def tMethD (C : Addr) (m : Str) (dvs : List V) (sp : Sp) (E : L2.St → XK) (ta : TE) (t : TA) : TE := fun σ H Q => ta σ H fun x H1 => ∃ a dx fs, x = .ref a ∧ H1 a = some (.ins C dx fs) ∧ fs.lookup m = none ∧ t σ H1 fun vs H2 => sp ((x :: vs) ++ dvs) H2 Q (E σ)
theorem q_methD {pl : Sem Bool} (M : MtD X.prog X.w X.K X.mg X.base k C m ps dvs sp) (tk : Takes X W) (hr : Room k X.A) (he : PE X o ta) (ha : PA X (e :: es) t)
    (hst : starEach (e :: es) X.env = (false, eval e X.env) :: starEach es X.env := by rfl) (hpl : (backTo pos (starEach es X.env)).any (·.1) = false := by rfl)
    (ht : eval (.Call (.Attribute o m apos) (e :: es) [] pos) X.env = (do
      let ov ← eval o X.env
      standAt apos.atName
      let (f, first) ← holding [ov] (getMethod ov m pl)
      callWith pos f first (backTo pos (starEach (e :: es) X.env)) (backToKw pos (keywordEach [] X.env))) := by rfl) :
    PE X (.Call (.Attribute o m apos) (e :: es) [] pos) (tMethD C m dvs sp (WE W) ta t) := by
  obtain ⟨f, fd, ds, hm, hd, hb, F⟩ := M.fn
  refine ⟨fun pins s σ H Q I h => ?_⟩
  refine PySem.W.methodCall_KW (pl := pl) (thn (he.run pins s σ H _ I h) fun u s1 ⟨x, H1, I1, rx, a, dx, fs, ex, ea, l, q⟩ => ?_) ht
  subst ex
  obtain rfl : u = Value.ref a := rx
  refine getmeth_ok I1 ea M.c hm l ?_
  refine PySem.W.callWith_K (first := [.ref a]) (h₀ := X.base) I.ok.mod.kin hm.kp (thn (ha.run pos pins s1 σ H1 _ I1 q) fun us s2 ⟨vs, H2, I2, r, q2⟩ => ⟨I2.kIn, ?_⟩) hst hpl
  exact run_fnD (us := .ref a :: us) (vs := .ref a :: vs) F hr hb hd tk I2 (.cons rfl r) q2
theorem g_methD {σ : L2.St} {H : Hp} {Q : VK} {E : L2.St → XK} (h : ta σ H fun x H1 => ∃ a dx fs, x = .ref a ∧ H1 a = some (.ins C dx fs) ∧ fs.lookup m = none ∧ t σ H1 fun vs H2 => sp ((x :: vs) ++ dvs) H2 Q (E σ)) : tMethD C m dvs sp E ta t σ H Q := h
end
/-! ### `def __init__(self, *v, k=..)`, made by C(.., k = e) -/
def FnSt (P : Program) (w : World) (K : PySem.W.Frag) (mg : Str → Option Value) (base : Heap) (k : Nat) (f : Addr) (ks : List Str) (sp : List V → List V → Hp → VK → XK → Prop) : Prop :=
  ∀ (A : Around) (outer : List Env) (s : Shared) (H : Hp) (us ws : List Value) (vs zs : List V) (Q : VK) (E : XK), Room k A → Env0 P w K mg base A outer s H → Vals vs us → Vals zs ws → zs.length = ks.length → sp vs zs H Q E →
    codeAny (model P w) A (.call (.ref f) ⟨us, ks.zip ws⟩) (CR (L2.CX P w) outer P w H s Q E) s
def spM (sp : Sp) : List V → List V → Hp → VK → XK → Prop := fun vs zs H Q E => match vs with
  | [] => False
  | v :: vs => vs.length ≤ sizeLine ∧ ∀ p, H p = none → sp ((v :: zs) ++ [V.ref p]) (upd H p (.tup vs)) Q E
theorem FunD.okStarM {P : Program} {w : World} {K : PySem.W.Frag} {mg : Str → Option Value} {base : Heap} {x qual : Str} {params : Arguments} {body : List Stmt} {scope : Scope} {f : Addr} {fd : FuncData} {N : List Str} {p0 pk pv : Str} {k : Nat} {sp : Sp}
    (F : FunD K x qual params body scope [] [] f fd) (S : FnScope N [p0, pk, pv] scope)
    (hb : ∀ (kV doc pm : Value) (an : Option Addr) (cdv ct : Value) (u0 : Value) (us : List Value) (w1 : Value), bindArgs (PySem.W.fnOf x qual params body scope .none kV doc pm an cdv ct) ⟨u0 :: us, [(pk, w1)]⟩ = (newTuple us >>= fun t => pure [(p0, u0), (pk, w1), (pv, t)]))
    (hbody : ∀ (cdv : Value) (A : Around) (outer : List Env) (s : Shared) (H : Hp) (vs : List V) (Q : VK) (E : XK), Room k (A.deeper (envOfC qual scope s.heap.objs.size f cdv)) → sp vs H Q E →
      ∃ t, PSs (cxOf (L2.CX P w) P w K mg base N qual scope f cdv A outer s H E) body t ∧ t { nx := fun _ H' => Q .non H', rt := Q } (start N vs) H) : FnSt P w K mg base (k + 1) f [pk] (spM sp) := by
  obtain ⟨oc, od, dV, kV, doc, pm, an, cdv, ct, osl, rfl, lk, hcd, hD, hK⟩ := F.ex
  rcases hD with ⟨_, rfl⟩ | ⟨e, _⟩
  rotate_left
  · exact absurd rfl e
  intro A outer s H us ws vs zs Q E hr e0 r rz lz hsp
  match vs, us, r, hsp with
  | v0 :: vs, u0 :: us, .cons r0 r, hsp =>
  obtain ⟨hz, hq⟩ := hsp
  match zs, ws, rz, lz with
  | [z], [w1], .cons rz1 .nil, _ =>
  have hn : H s.heap.objs.size = Option.none := e0.hok.fresh (Nat.le_refl _)
  have hl2 : us.length ≤ sizeLine := by rw [← r.length]; exact hz
  refine StX.run_bnd lk hcd S hr e0 (G := fun xs H2 => ∃ p, H p = Option.none ∧ xs = [v0, z, V.ref p] ∧ H2 = upd H p (.tup vs)) (fun A' Ex Q' h => ?_) fun s2 H2 xs ⟨p, hp, ex, eH⟩ hr' => ?_
  · show wpAny _ _ (bindArgs _ ⟨u0 :: us, [(pk, w1)]⟩) _ _ _
    rw [hb kV doc pm an cdv ct u0 us w1]
    refine wpAny_bind (wpAny_newTuple (wpAny_pure ?_) hl2)
    have new : ObjOk P w (upd H s.heap.objs.size (.tup vs)) (s.heap.push ({ cls := .type "tuple", data := .seq us.toArray } : Obj)) s.heap.objs.size (.tup vs) := ⟨hz, us, r, ⟨_, Heap.get?_push_size _ rfl, rfl, _, rfl⟩⟩
    have un := StX.un_laid (fs := frs outer) (s := s) (o := ({ cls := .type "tuple", data := .seq us.toArray } : Obj)) (u := .tup vs) hn
    exact h _ _ [v0, z, V.ref s.heap.objs.size] [u0, w1, Value.ref s.heap.objs.size] (StX.env0_laid e0 new) un rfl (fun e s' => StX.cxUp outer s H _ _ E e s' un (fun b o q => Heap.get?_push_of_some _ q) rfl) (.cons r0 (.cons rz1 (.cons rfl .nil))) rfl ⟨_, hn, rfl, rfl⟩
  · subst ex eH
    exact hbody cdv A outer s2 _ _ Q E hr' (hq p hp)
structure MkS (P : Program) (w : World) (K : PySem.W.Frag) (mg : Str → Option Value) (base : Heap) (k : Nat) (x : Str) (C : Addr) (ks : List Str) (sp : List V → List V → Hp → VK → XK → Prop) : Prop where
  g : mg x = some (.ref C)
  fn : ∃ f : Addr, Mk K C f ∧ FnSt P w K mg base k f ks sp
section
variable {X : Cx} {k n : Nat} {C : Addr} {x m : Str} {o e : Expr} {es : List Expr} {kws : List Keyword} {t tk : TA} {p pos : Pos} {ks : List Str} {sp : List V → List V → Hp → VK → XK → Prop} {W : WX}
def tMakeM (C : Addr) (l : Nat) (sp : List V → List V → Hp → VK → XK → Prop) (E : L2.St → XK) (t tk : TA) : TE := fun σ H Q => t σ H fun vs H1 => tk σ H1 fun zs H2 => zs.length = l ∧ ∀ x dx, H2 x = none → H2 dx = none → dx ≠ x →
  sp (.ref x :: vs) zs (upd (upd H2 dx (.own x)) x (.ins C dx [])) (fun v H3 => v = .non ∧ Q (.ref x) H3) (E σ)
theorem run_makeM {f : Addr} {pins : List (Addr × Obj)} {σ : L2.St} {H : Hp} {s : Shared} {Q : VK} {us ws : List Value} {vs zs : List V} (M : Mk X.K C f) (F : FnSt X.prog X.w X.K X.mg X.base k f ks sp) (hr : Room (k + 1) X.A)
    (tk : Takes X W) (I : Inv X pins σ H s) (r : Vals vs us) (rz : Vals zs ws) (l2 : zs.length = ks.length)
    (h : ∀ x dx, H x = none → H dx = none → dx ≠ x → sp (.ref x :: vs) zs (upd (upd H dx (.own x)) x (.ins C dx [])) (fun v H2 => v = .non ∧ Q (.ref x) H2) (WE W σ)) :
    wpAny (model X.prog X.w) X.A (call (.ref C) us (ks.zip ws)) (EP X pins σ Q) X.xe s := by
  have hq := h (s.heap.objs.size + 1) s.heap.objs.size (I.hok.fresh (Nat.le_succ _)) (I.hok.fresh (Nat.le_refl _)) (Nat.ne_of_lt (Nat.lt_succ_self _))
  have I2 := Inv.made (C := C) I
  have r1 : Vals (V.ref (s.heap.objs.size + 1) :: vs) (Value.ref (s.heap.objs.size + 1) :: us) := .cons rfl r
  refine wpAny_call (make_map (f := f) I.kIn M.makes M.init (beq_iff_eq.mp M.fn) (codeAny_mono (F _ X.stack _ _ (Value.ref (s.heap.objs.size + 1) :: us) ws _ zs _ (WE W σ) (hr.make C us (ks.zip ws))
    (I2.env0.make C us (ks.zip ws)) r1 rz l2 hq) fun r s' hq' => ?_))
  cases r with
  | error e => exact passAt tk σ pins _ _ e s' I2 hq'
  | ok fl =>
    cases fl with
    | ret u =>
      obtain ⟨v, H', I3, rv, ev, q3⟩ := I2.after hq'
      subst ev
      exact ⟨rv, ⟨V.ref (s.heap.objs.size + 1), H', I3, rfl, q3⟩⟩
    | next => exact False.elim hq'
    | brk => exact False.elim hq'
    | cont => exact False.elim hq'
theorem q_makeM0 (M : MkS X.prog X.w X.K X.mg X.base k x C ks sp) (tk0 : Takes X W) (hr : Room (k + 1) X.A) (hkw : PK X kws tk) (hg : Gl X x := by rfl)
    (hall : (backToKw pos (keywordEach kws X.env)).all (·.1.isSome) = true := by rfl) (hks : (backToKw pos (keywordEach kws X.env)).filterMap (·.1) = ks := by rfl) (hdb : (x == ("__debug__" : Str)) = false := by decide)
    (hpl : ((backTo pos (starEach [] X.env)).any (·.1) || (backToKw pos (keywordEach kws X.env)).any (·.1.isNone)) = false := by rfl) :
    PE X (.Call (.Name x p) [] kws pos) (tMakeM C ks.length sp (WE W) tNil tk) := by
  obtain ⟨f, M1, F⟩ := M.fn
  refine ⟨fun pins s σ H Q I h => ?_⟩
  refine wpAny_Call_Name_kw (ld_glob I hg M.g ?_ hdb)
  refine PySem.W.callWith_KW0 (h₀ := X.base) I.ok.mod.kin M1.kp hall ?_ hpl
  refine thn (hkw.run pos pins s σ H _ I h) fun ws s2 ⟨zs, H2, I2, rz, l2, q2⟩ => ⟨I2.kIn, ?_⟩
  rw [hks]
  exact run_makeM (us := []) (vs := []) M1 F hr tk0 I2 .nil rz l2 q2
theorem q_makeM (M : MkS X.prog X.w X.K X.mg X.base k x C ks sp) (tk0 : Takes X W) (hr : Room (k + 1) X.A) (ha : PA X (e :: es) t) (hkw : PK X kws tk) (hg : Gl X x := by rfl)
    (hall : (backToKw pos (keywordEach kws X.env)).all (·.1.isSome) = true := by rfl) (hks : (backToKw pos (keywordEach kws X.env)).filterMap (·.1) = ks := by rfl) (hdb : (x == ("__debug__" : Str)) = false := by decide)
    (he : starEach (e :: es) X.env = (false, eval e X.env) :: starEach es X.env := by rfl) (hpl : ((backTo pos (starEach (e :: es) X.env)).any (·.1) || (backToKw pos (keywordEach kws X.env)).any (·.1.isNone)) = false := by rfl) :
    PE X (.Call (.Name x p) (e :: es) kws pos) (tMakeM C ks.length sp (WE W) t tk) := by
  obtain ⟨f, M1, F⟩ := M.fn
  refine ⟨fun pins s σ H Q I h => ?_⟩
  refine wpAny_Call_Name_kw (ld_glob I hg M.g ?_ hdb)
  refine PySem.W.callWith_KW (h₀ := X.base) I.ok.mod.kin M1.kp hall (thn (ha.run pos pins s σ H _ I h) fun us s1 ⟨vs, H1, I1, r, q⟩ => ?_) hpl he
  refine thn (hkw.run pos pins s1 σ H1 _ I1 q) fun ws s2 ⟨zs, H2, I2, rz, l2, q2⟩ => ⟨I2.kIn, ?_⟩
  rw [hks]
  exact run_makeM M1 F hr tk0 I2 r rz l2 q2
theorem g_makeM {σ : L2.St} {H : Hp} {Q : VK} {E : L2.St → XK} {l : Nat} (h : t σ H fun vs H1 => tk σ H1 fun zs H2 => zs.length = l ∧ ∀ x dx, H2 x = none → H2 dx = none → dx ≠ x →
  sp (.ref x :: vs) zs (upd (upd H2 dx (.own x)) x (.ins C dx [])) (fun v H3 => v = .non ∧ Q (.ref x) H3) (E σ)) : tMakeM C l sp E t tk σ H Q := h
end
/-! ### o.m(e, .., k = v) -/
structure MtG (P : Program) (w : World) (K : PySem.W.Frag) (mg : Str → Option Value) (base : Heap) (k : Nat) (C : Addr) (m : Str) (ps : List Str) (n : Nat) (ks : List Str) (sp : Sp) : Prop where
  c : Cls K C
  fn : ∃ (f : Addr) (fd : FuncData), Meth K C m f ∧ KBn K fd ps n ks (fun us ws => us ++ ws) (fun vs zs => vs ++ zs) ∧ FnOk P w K mg base (L2.CX P w) k f fd ps sp
section
variable {X : Cx} {k n : Nat} {C : Addr} {m : Str} {o e : Expr} {es : List Expr} {kws : List Keyword} {t tk : TA} {ta : TE} {pos apos : Pos} {ps ks : List Str} {sp : Sp} {W : WX}
def tMethG (C : Addr) (m : Str) (n l : Nat) (sp : Sp) (E : L2.St → XK) (ta : TE) (t tk : TA) : TE := fun σ H Q => ta σ H fun x H1 => ∃ a dx fs, x = .ref a ∧ H1 a = some (.ins C dx fs) ∧ fs.lookup m = none ∧ t σ H1 fun vs H2 => tk σ H2 fun zs H3 => vs.length + 1 = n ∧ zs.length = l ∧ sp (x :: (vs ++ zs)) H3 Q (E σ)
theorem q_methG {pl : Sem Bool} (M : MtG X.prog X.w X.K X.mg X.base k C m ps n ks sp) (tk0 : Takes X W) (hr : Room k X.A) (he : PE X o ta) (ha : PA X (e :: es) t) (hkw : PK X kws tk)
    (hall : (backToKw pos (keywordEach kws X.env)).all (·.1.isSome) = true := by rfl) (hks : (backToKw pos (keywordEach kws X.env)).filterMap (·.1) = ks := by rfl)
    (hst : starEach (e :: es) X.env = (false, eval e X.env) :: starEach es X.env := by rfl) (hpl : ((backTo pos (starEach (e :: es) X.env)).any (·.1) || (backToKw pos (keywordEach kws X.env)).any (·.1.isNone)) = false := by rfl)
    (ht : eval (.Call (.Attribute o m apos) (e :: es) kws pos) X.env = (do
      let ov ← eval o X.env
      standAt apos.atName
      let (f, first) ← holding [ov] (getMethod ov m pl)
      callWith pos f first (backTo pos (starEach (e :: es) X.env)) (backToKw pos (keywordEach kws X.env))) := by rfl) :
    PE X (.Call (.Attribute o m apos) (e :: es) kws pos) (tMethG C m n ks.length sp (WE W) ta t tk) := by
  obtain ⟨f, fd, hm, hb, F⟩ := M.fn
  refine ⟨fun pins s σ H Q I h => ?_⟩
  refine PySem.W.methodCall_KW (pl := pl) (thn (he.run pins s σ H _ I h) fun u s1 ⟨x, H1, I1, rx, a, dx, fs, ex, ea, l, q⟩ => ?_) ht
  subst ex
  obtain rfl : u = Value.ref a := rx
  refine getmeth_ok I1 ea M.c hm l ?_
  refine PySem.W.callWith_KW (first := [.ref a]) (h₀ := X.base) I1.ok.mod.kin hm.kp hall (thn (ha.run pos pins s1 σ H1 _ I1 q) fun us s2 ⟨vs, H2, I2, r, q2⟩ => ?_) hpl hst
  refine thn (hkw.run pos pins s2 σ H2 _ I2 q2) fun ws s3 ⟨zs, H3, I3, rz, l1, l2, q3⟩ => ⟨I3.kIn, ?_⟩
  rw [hks]
  have r1 : Vals (V.ref a :: vs) (Value.ref a :: us) := .cons rfl r
  have r2 := hb.rel r1 rz
  have e1 : (Value.ref a :: us).length = n := r1.length.symm.trans l1
  have e2 : ws.length = ks.length := rz.length.symm.trans l2
  show wpAny (model X.prog X.w) X.A (call (.ref f) (.ref a :: us) (ks.zip ws)) (EP X pins σ Q) X.xe s3
  refine wpAny_call (codeAny_mono (F.run X.A X.stack s3 H3 ⟨Value.ref a :: us, ks.zip ws⟩ _ _ Q (WE W σ) hr I3.env0 (hb.to s3 (Value.ref a :: us) ws I3.kIn e1 e2) r2 q3) fun r s' hq => ?_)
  cases r with
  | error e => exact passAt tk0 σ pins H3 s3 e s' I3 hq
  | ok fl =>
    cases fl with
    | ret u => exact I3.after hq
    | next => exact False.elim hq
    | brk => exact False.elim hq
    | cont => exact False.elim hq
theorem g_methG {σ : L2.St} {H : Hp} {Q : VK} {E : L2.St → XK} {l : Nat} (h : ta σ H fun x H1 => ∃ a dx fs, x = .ref a ∧ H1 a = some (.ins C dx fs) ∧ fs.lookup m = none ∧ t σ H1 fun vs H2 => tk σ H2 fun zs H3 => vs.length + 1 = n ∧ zs.length = l ∧ sp (x :: (vs ++ zs)) H3 Q (E σ)) : tMethG C m n l sp E ta t tk σ H Q := h
end
/-! ### x in o where x may be anything; `is True` -/
def dIsB : R2 := fun x y H Q => match y with
  | .non => Q (.bl (decide (x = .non))) H
  | .bl b => ∃ a, x = .bl a ∧ Q (.bl (decide (a = b))) H
  | _ => False
theorem op_dIsB {X : Cx} : OpR X (compareOp .Is) dIsB := by
  intro pins s σ H x y v u Q I rx ry h
  cases y with
  | non => exact op_isN pins s σ H _ _ v u Q I rx ry ⟨rfl, h⟩
  | bl b =>
    obtain ⟨a, rfl, q⟩ := h
    exact op_is_bl pins s σ H _ _ v u Q I rx ry ⟨a, b, rfl, rfl, q⟩
  | _ => exact (show False from h).elim
theorem g_isB {H : Hp} {Q : VK} {a b : Bool} (h : Q (.bl (decide (a = b))) H) : dIsB (.bl a) (.bl b) H Q := ⟨a, rfl, h⟩
theorem g_isBn {H : Hp} {Q : VK} {x : V} (h : Q (.bl (decide (x = .non))) H) : dIsB x .non H Q := h
/-! ### calls of values that are told by their place -/
/-- what stands at f keeps the promise SV f -/
structure CleS (P : Program) (w : World) (K : PySem.W.Frag) (mg : Str → Option Value) (base : Heap) (k : Nat) (SV : Addr → Sp) : Prop where
  all : ∀ f, Cle P w K mg base k f (SV f)
def CvO (SV : Addr → Sp) : Addr → Sp → Prop := fun f sp => sp = SV f
theorem CleS.cv {P : Program} {w : World} {K : PySem.W.Frag} {mg : Str → Option Value} {base : Heap} {k : Nat} {SV : Addr → Sp} (c : CleS P w K mg base k SV) : ∀ f sp, CvO SV f sp → Cle P w K mg base k f sp := fun f sp e => by
  cases (show sp = SV f from e)
  exact c.all f
section
variable {SV : Addr → Sp} {E : L2.St → XK} {te : TE} {t : TA} {σ : L2.St} {H : Hp} {Q : VK} {m : Str} {K : PySem.W.Frag}
theorem g_callV (h : te σ H fun x H1 => ∃ f F, x = .ref f ∧ H1 f = some (FnM f F) ∧ t σ H1 fun vs H2 => SV f vs H2 Q (E σ)) : tCallV (CvO SV) E te t σ H Q := by
  have e : (fun x (H1 : Hp) => ∃ f F, x = V.ref f ∧ H1 f = some (FnM f F) ∧ t σ H1 fun vs H2 => SV f vs H2 Q (E σ)) = fun x H1 => ∃ f F, x = V.ref f ∧ H1 f = some (FnM f F) ∧ t σ H1 fun vs H2 => ∃ sp, CvO SV f sp ∧ sp vs H2 Q (E σ) := by
    funext x H1
    refine propext (exists_congr fun f => exists_congr fun F => and_congr_right fun _ => and_congr_right fun _ => ?_)
    have : (fun vs (H2 : Hp) => SV f vs H2 Q (E σ)) = fun vs H2 => ∃ sp, CvO SV f sp ∧ sp vs H2 Q (E σ) := by
      funext vs H2
      exact propext ⟨fun h => ⟨_, rfl, h⟩, fun ⟨sp, e, h⟩ => by cases (show sp = SV f from e); exact h⟩
    rw [this]
  rw [e] at h
  exact h
theorem g_callF (h : te σ H fun x H1 => ∃ a C dx fs f F, x = .ref a ∧ H1 a = some (.ins C dx fs) ∧ Cls K C ∧ NoAttr K C m ∧ fs.lookup m = some (.ref f) ∧ H1 f = some (FnM f F) ∧ t σ H1 fun vs H2 => SV f vs H2 Q (E σ)) : tCallF K (CvO SV) m E te t σ H Q := by
  have e : (fun x (H1 : Hp) => ∃ a C dx fs f F, x = V.ref a ∧ H1 a = some (.ins C dx fs) ∧ Cls K C ∧ NoAttr K C m ∧ fs.lookup m = some (.ref f) ∧ H1 f = some (FnM f F) ∧ t σ H1 fun vs H2 => SV f vs H2 Q (E σ)) =
      fun x H1 => ∃ a C dx fs f F, x = V.ref a ∧ H1 a = some (.ins C dx fs) ∧ Cls K C ∧ NoAttr K C m ∧ fs.lookup m = some (.ref f) ∧ H1 f = some (FnM f F) ∧ t σ H1 fun vs H2 => ∃ sp, CvO SV f sp ∧ sp vs H2 Q (E σ) := by
    funext x H1
    refine propext (exists_congr fun a => exists_congr fun C => exists_congr fun dx => exists_congr fun fs => exists_congr fun f => exists_congr fun F => and_congr_right fun _ => and_congr_right fun _ => and_congr_right fun _ => and_congr_right fun _ => and_congr_right fun _ => and_congr_right fun _ => ?_)
    have : (fun vs (H2 : Hp) => SV f vs H2 Q (E σ)) = fun vs H2 => ∃ sp, CvO SV f sp ∧ sp vs H2 Q (E σ) := by
      funext vs H2
      exact propext ⟨fun h => ⟨_, rfl, h⟩, fun ⟨sp, e, h⟩ => by cases (show sp = SV f from e); exact h⟩
    rw [this]
  rw [e] at h
  exact h
end
/-! ### x in o -/
section
variable {X : Cx} {k : Nat} {C : Addr} {a b : Expr} {ta tb : TE} {pos : Pos} {ps : List Str} {sp : Sp} {W : WX}
def tInO (C : Addr) (sp : Sp) (E : L2.St → XK) (ta tb : TE) : TE := fun σ H Q => ta σ H fun x H1 => tb σ H1 fun y H2 => ∃ c dx fs, y = .ref c ∧ H2 c = some (.ins C dx fs) ∧ sp [y, x] H2 (fun r H3 => ∃ t, r = .bl t ∧ Q (.bl t) H3) (E σ)
theorem q_inO (M : MtC X.prog X.w X.K X.mg X.base k C "__contains__" ps sp) (tk : Takes X W) (hr : Room k X.A) (hx : PE X a ta) (hy : PE X b tb) (hm0 : behindInMarks .In b = false := by with_unfolding_all rfl) : PE X (.Compare a [.In] [b] pos) (tInO C sp (WE W) ta tb) := by
  obtain ⟨f, fd, hm, fnI, hb, F⟩ := M.fn
  refine ⟨fun pins s σ H Q I h => ?_⟩
  refine wpAny_Compare1 (binT hx hy I h fun u v s2 x y H2 I2 rx ry q => ?_) hm0
  obtain ⟨c, dx, fs, ey, ec, q⟩ := q
  subst ey
  obtain rfl : v = Value.ref c := ry
  obtain ⟨od, J⟩ := inst_of I2 ec
  have fr := run_fnS (us := [.ref c, u]) (vs := [.ref c, x]) (E := WE W) F hr hb (passAt tk σ) I2 (.cons rfl (.cons rx .nil)) q
  obtain ⟨m, hF⟩ := I2.fr
  refine PySem.W.in_K hF I2.ok.mod.kin J hm.at_ hm.fn (wpAny_mono fr (fun r s' hv => ?_) fun _ _ e => e)
  obtain ⟨z, H', I', rz, t, ez, qz⟩ := hv
  subst ez
  cases rz
  exact wpAny_truthy_bool ⟨.bl t, H', I', rfl, qz⟩
theorem g_inO {σ : L2.St} {H : Hp} {Q : VK} {E : L2.St → XK} (h : ta σ H fun x H1 => tb σ H1 fun y H2 => ∃ c dx fs, y = .ref c ∧ H2 c = some (.ins C dx fs) ∧ sp [y, x] H2 (fun r H3 => ∃ t, r = .bl t ∧ Q (.bl t) H3) (E σ)) : tInO C sp E ta tb σ H Q := h
end
/-! ### steps of locks and walks over dicts -/
section
variable {K : PySem.W.Frag} {σ : L2.St} {H : Hp} {Q : VK} {d : Addr}
theorem g_lockE {t : TE} {u : HO} (h : H d = some u) (m : Mut (some u)) (k : ∀ od, t σ (upd H d (.frz od u)) fun v H' => H' d = some (.frz od u) ∧ Q v (upd H' d u)) : tLockE t σ H Q := ⟨d, u, h, m, k⟩
theorem g_ivals {td : TE} {R : It → Hp → Prop} (h : td σ H fun x H1 => ∃ d o kvs, x = .ref d ∧ H1 d = some (.frz o (.dK kvs)) ∧ R (Itd d o kvs) H1) : iVals td σ H R := h
theorem g_iitems {td : TE} {R : It → Hp → Prop} (h : td σ H fun x H1 => ∃ d o kvs, x = .ref d ∧ H1 d = some (.frz o (.dK kvs)) ∧ R (Iti d o kvs) H1) : iItems td σ H R := h
theorem g_ifrz {kvs : List (Key × V)} {od : Obj} {Z : Addr → Obj → List (Key × V) → Prop} (h : H d = some (.frz od (.dK kvs))) (k : Z d od kvs) : ∃ a o kvs, V.ref d = .ref a ∧ H a = some (.frz o (.dK kvs)) ∧ Z a o kvs := ⟨d, od, kvs, rfl, h, k⟩
theorem g_dc {wi : TI} {g : TG} {tt : TT} {tk tv : TE} {vs : List Nat} (h : wi σ H fun J H1 => ∀ D, H1 D = none → ∃ W : Nat → Nat → Hp → Prop, (∃ m, W 0 m (upd H1 D (.dK []))) ∧ ∀ i m H, W i m H →
  (J.stop i H ∧ Q (.ref D) H) ∨ (J.go i H ∧ ∃ Nx : Hp → Prop, (∀ H', Nx H' → ∃ m', m' < m ∧ W (i + 1) m' H') ∧ ∀ x H', J.yld i H x H' → g x (wipe σ vs) H' fun σ2 H2 => wipe σ2 vs = wipe σ vs ∧ tt σ2 H2 fun b H3 =>
    if b = true then tk σ2 H3 fun y H4 => tv σ2 H4 fun z H5 => ∃ kvs k, y = kV k ∧ H5 D = some (.dK kvs) ∧ kvs.length < sizeLine ∧ Nx (upd H5 D (.dK (putK kvs k z))) else Nx H3)) : tDc wi g tt tk tv vs σ H Q := h
/-- over the values of a locked dict -/
theorem lc_vals {od : Obj} {kvs : List (Key × V)} {g : TG} {tt : TT} {te : TE} {vs : List Nat} {H1 : Hp} {D : Addr} {Qd : Hp → Prop} (Pv : Nat → Hp → Prop) (h0 : Pv 0 (upd H1 D (.lst []))) (hl : ∀ i H, i ≤ kvs.length → Pv i H → H d = some (.frz od (.dK kvs)))
    (hs : ∀ i k v H, kvs[i]? = some (k, v) → Pv i H → g v (wipe σ vs) H fun σ2 H2 => wipe σ2 vs = wipe σ vs ∧ tt σ2 H2 fun b H3 =>
      if b = true then te σ2 H3 fun y H4 => ∃ acc, H4 D = some (.lst acc) ∧ acc.length < sizeLine ∧ Pv (i + 1) (upd H4 D (.lst (acc ++ [y]))) else Pv (i + 1) H3) (hd : ∀ H, Pv kvs.length H → Qd H) : LoopC (Itd d od kvs) g tt te vs σ H1 D Qd := by
  refine ⟨fun i m H => m = kvs.length - i ∧ i ≤ kvs.length ∧ Pv i H, ⟨kvs.length, by simp, Nat.zero_le _, h0⟩, ?_⟩
  rintro i m H ⟨rfl, hi, p⟩
  have q := hl i H hi p
  by_cases hlt : i < kvs.length
  · refine .inr ⟨⟨q, hlt⟩, Pv (i + 1), fun H' p' => ⟨kvs.length - (i + 1), by omega, rfl, hlt, p'⟩, fun x H' y => ?_⟩
    obtain ⟨e, k, y⟩ := y
    subst e
    exact hs i k x _ y p
  · have e : i = kvs.length := by omega
    subst e
    exact .inl ⟨⟨q, Nat.le_refl _⟩, hd H p⟩
/-- over the items of a locked dict: a new dict -/
theorem dc_items {od : Obj} {kvs : List (Key × V)} {g : TG} {tt : TT} {tk tv : TE} {vs : List Nat} {H1 : Hp} {D : Addr} {Qd : Hp → Prop} (Pv : Nat → Hp → Prop) (h0 : Pv 0 (upd H1 D (.dK []))) (hl : ∀ i H, i ≤ kvs.length → Pv i H → H d = some (.frz od (.dK kvs)))
    (hs : ∀ i k v T H, kvs[i]? = some (k, v) → Pv i H → H T = none → g (.ref T) (wipe σ vs) (upd H T (.tup [kV k, v])) fun σ2 H2 => wipe σ2 vs = wipe σ vs ∧ tt σ2 H2 fun b H3 =>
      if b = true then tk σ2 H3 fun y H4 => tv σ2 H4 fun z H5 => ∃ kvs k, y = kV k ∧ H5 D = some (.dK kvs) ∧ kvs.length < sizeLine ∧ Pv (i + 1) (upd H5 D (.dK (putK kvs k z))) else Pv (i + 1) H3) (hd : ∀ H, Pv kvs.length H → Qd H) :
    ∃ W : Nat → Nat → Hp → Prop, (∃ m, W 0 m (upd H1 D (.dK []))) ∧ ∀ i m H, W i m H →
      ((Iti d od kvs).stop i H ∧ Qd H) ∨ ((Iti d od kvs).go i H ∧ ∃ Nx : Hp → Prop, (∀ H', Nx H' → ∃ m', m' < m ∧ W (i + 1) m' H') ∧ ∀ x H', (Iti d od kvs).yld i H x H' → g x (wipe σ vs) H' fun σ2 H2 => wipe σ2 vs = wipe σ vs ∧ tt σ2 H2 fun b H3 =>
        if b = true then tk σ2 H3 fun y H4 => tv σ2 H4 fun z H5 => ∃ kvs k, y = kV k ∧ H5 D = some (.dK kvs) ∧ kvs.length < sizeLine ∧ Nx (upd H5 D (.dK (putK kvs k z))) else Nx H3) := by
  refine ⟨fun i m H => m = kvs.length - i ∧ i ≤ kvs.length ∧ Pv i H, ⟨kvs.length, by simp, Nat.zero_le _, h0⟩, ?_⟩
  rintro i m H ⟨rfl, hi, p⟩
  have q := hl i H hi p
  by_cases hlt : i < kvs.length
  · refine .inr ⟨⟨q, hlt⟩, Pv (i + 1), fun H' p' => ⟨kvs.length - (i + 1), by omega, rfl, hlt, p'⟩, fun x H' y => ?_⟩
    obtain ⟨T, k, v, h1, h2, h3, h4⟩ := y
    subst h2 h4
    exact hs i k v T _ h1 p h3
  · have e : i = kvs.length := by omega
    subst e
    exact .inl ⟨⟨q, Nat.le_refl _⟩, hd H p⟩
end
theorem q_callFK {X : Cx} {k : Nat} {m : Str} {o e : Expr} {es : List Expr} {t : TA} {te : TE} {pos apos : Pos} {W : WX} {CV : Addr → Sp → Prop} (K : PySem.W.Frag) {pl : Sem Bool} (hC : ∀ f sp, CV f sp → Cle X.prog X.w X.K X.mg X.base k f sp) (tk : Takes X W) (hr : Room k X.A) (ho : PE X o te) (ha : PA X (e :: es) t)
    (he : starEach (e :: es) X.env = (false, eval e X.env) :: starEach es X.env := by rfl) (hpl : (backTo pos (starEach es X.env)).any (·.1) = false := by rfl)
    (ht : eval (.Call (.Attribute o m apos) (e :: es) [] pos) X.env = (do
      let ov ← eval o X.env
      standAt apos.atName
      let (f, first) ← holding [ov] (getMethod ov m pl)
      callWith pos f first (backTo pos (starEach (e :: es) X.env)) (backToKw pos (keywordEach [] X.env))) := by rfl) (h : X.K = K := by rfl) :
    PE X (.Call (.Attribute o m apos) (e :: es) [] pos) (tCallF K CV m (WE W) te t) := h ▸ q_callF hC tk hr ho ha he hpl ht
/-! ### x = {k: v for ..} -/
section
variable {X : Cx}
theorem ps_setDc {i : Nat} {y : Str} {py : Pos} {kx vx tg iter : Expr} {ifs : List Expr} {scope : Scope} {own : List (Str × Nat)} {pos spos : Pos} {wi : TI} {g : TG} {tt : TT} {tk tv : TE} (hc : X.calm = true) (hN : X.N.Nodup) (hy : X.N[i]? = some y) (hyl : X.env.scope.names.lookup y = some .local)
    (hsw : swapsWith (.DictComp kx vx [⟨tg, iter, ifs, 0⟩] scope pos) (some (.Name y py)) spos.line X.env = pure true) (hi : PI X tg iter wi) (ok : BlkOk X.N X.env.scope scope own)
    (hg : ∀ (s : Shared) (H : Hp) (C : Addr) (cl : List (Str × Addr)) (fp : List Addr), PG (X.blk s H scope (compEnvC scope cl C X.env) fp) tg g) (ht : ∀ (s : Shared) (H : Hp) (C : Addr) (cl : List (Str × Addr)) (fp : List Addr), PTs (X.blk s H scope (compEnvC scope cl C X.env) fp) ifs tt)
    (hk : ∀ (s : Shared) (H : Hp) (C : Addr) (cl : List (Str × Addr)) (fp : List Addr), PE (X.blk s H scope (compEnvC scope cl C X.env) fp) kx tk)
    (he : ∀ (s : Shared) (H : Hp) (C : Addr) (cl : List (Str × Addr)) (fp : List Addr), PE (X.blk s H scope (compEnvC scope cl C X.env) fp) vx tv) (hs : ∀ x, foldedSetIterable iter X.env x = pure x := by intro _; rfl) :
    PS X (.Assign [.Name y py] (.DictComp kx vx [⟨tg, iter, ifs, 0⟩] scope pos) spos) (tAsg (tDc wi g tt tk tv (own.map (·.2))) (gName i)) := by
  refine ⟨fun pins s σ H D I h => ?_⟩
  rw [exec_Assign_Name_used _ _ _ _ hsw]
  refine wpAny_bind (wpAny_standAt (wpAny_bind ?_))
  show wpAny _ X.A (do let _ ← comprehension (.DictComp kx vx [⟨tg, iter, ifs, 0⟩] scope pos) scope X.env (firstIterPos [⟨tg, iter, ifs, 0⟩] pos) newDict false (eval iter X.env) (some (assign (.Name y py) X.env))) _ _ s
  have h : tDc wi g tt tk tv (own.map (·.2)) σ H (fun x H1 => gName i x σ H1 D.nx) := h
  refine wpAny_bind (thn (dc_core (Qf := fun _ s' => SP X pins D .next s') hc hN I hi ok hg ht hk he hs h fun L C s' m H' I' q hn f => ?_) fun _ s' hq => wpAny_pure (wpAny_pure hq))
  show wpAny _ _ (assign (.Name y py) X.env (.ref L)) _ _ _
  refine wpAny_assign_Name (store_ok2 (v := V.ref L) I' hN hy (.inl hyl) rfl (fun s2 I2 ⟨a, sb, ha⟩ => ?_) (.inr hyl))
  obtain ⟨f0, f1, f2, f3, f4, f5⟩ := f
  have haC : C ≠ a := by
    rcases ha with z | z
    · rw [z]; exact f1
    · exact fun e => f4 y a z e.symm
  refine ⟨m, hn.sameBut sb haC, fun h3 sb3 => ?_⟩
  exact ⟨_, H', I2.turned (t' := s2.toks) (fun b o hb e => (sb3.2 b hb).trans e) f0 f1 f3 f4 f5, q⟩
theorem sw_trueD {kx vx : Expr} {gs : List Comprehension} {scope : Scope} {pos py : Pos} {y : Str} {l : Nat} {env : Env} (hk : env.scope.kind = .function) (hy : env.scope.names.lookup y = some .local) (hl : (py.line == pos.line) = true)
    (ha : (scope.names.any fun (n, k) => n == y && (k == .local || k == .cell)) = false) : swapsWith (.DictComp kx vx gs scope pos) (some (.Name y py)) l env = pure true := by
  have ky : env.kindOf y = some .local := hy
  have hb : env.blockKind = .function := by unfold Env.blockKind; rw [hk]; rfl
  unfold swapsWith
  simp only [hb, ky, ha, Expr.pos, hl]
  rfl
end
section
variable {σ : L2.St} {H : Hp} {d : Addr} {nx : L2.St → Hp → Prop} {rt : VK} {bk ct : L2.St → Hp → Prop}
theorem g_lockS {t : TS} {u : HO} (h : H d = some u) (m : Mut (some u)) (k : ∀ od, t ⟨fun σ' H' => H' d = some (.frz od u) ∧ nx σ' (upd H' d u), fun v H' => H' d = some (.frz od u) ∧ rt v (upd H' d u), fun σ' H' => H' d = some (.frz od u) ∧ bk σ' (upd H' d u), fun σ' H' => H' d = some (.frz od u) ∧ ct σ' (upd H' d u)⟩ σ (upd H d (.frz od u))) : tLock t ⟨nx, rt, bk, ct⟩ σ H := ⟨d, u, h, m, k⟩
end
/-! ### generator methods -/
structure GnC (P : Program) (w : World) (K : PySem.W.Frag) (mg : Str → Option Value) (base : Heap) (k : Nat) (C : Addr) (m : Str) (ps : List Str) (sp : SpG) : Prop where
  c : Cls K C
  fn : ∃ (f : Addr) (fd : FuncData), Meth K C m f ∧ Binds K fd ps [] ∧ GFn P w K mg base k f fd ps sp
theorem FunD.okGen {P : Program} {w : World} {K : PySem.W.Frag} {mg : Str → Option Value} {base : Heap} {x qual : Str} {params : Arguments} {body : List Stmt} {scope : Scope} {dvs : List V} {kws : List (Str × V)} {f : Addr} {fd : FuncData} {N ps : List Str} {k : Nat} {sp : SpG}
    (F : FunD K x qual params body scope dvs kws f fd) (S : GScope N ps scope) (len : ∀ vs H Q E, sp vs H Q E → vs.length = ps.length)
    (hbody : ∀ (cdv : Value) (A : Around) (outer : List Env) (s : Shared) (H : Hp) (vs : List V) (Q : List V → Hp → Prop) (E : XK) (pn : List (Addr × Obj)), Room k (A.deeper (envOfC qual scope s.heap.objs.size f cdv)) → sp vs H Q E →
      ∃ t, GSs (gcxOf P w K mg base N qual scope f cdv A outer s H E pn) body t ∧ t { nx := fun ys _ H' => Q ys H', rt := fun ys v H' => v = .non ∧ Q ys H' } [] (start N vs) H) : GFn P w K mg base (k + 1) f fd ps sp := by
  obtain ⟨oc, od, dV, kV, doc, pm, an, cdv, ct, osl, rfl, lk, hcd, _, _⟩ := F.ex
  exact gfn_of lk hcd S len fun A outer s H vs Q E pn hr h => hbody cdv A outer s H vs Q E pn hr h
section
variable {X : Cx} {k : Nat} {C : Addr} {m : Str} {o : Expr} {ta : TE} {p pos pos' apos : Pos} {ps : List Str} {sp : SpG}
def tListO (C : Addr) (m : Str) (sp : SpG) (ta : TE) : TE := tListG (L2.tMethG C m sp [] (fun _ _ _ => False) ta tNil)
theorem q_listG {pl : Sem Bool} (M : GnC X.prog X.w X.K X.mg X.base k C m ps sp) (hr : Room (k + 3) X.A) (he : PE X o ta) (hmg : X.mg "list" = none) (hg : Gl X "list" := by rfl)
    (ht : eval (.Call (.Attribute o m apos) [] [] pos') X.env = (do
      let ov ← eval o X.env
      standAt apos.atName
      let (f, first) ← holding [ov] (getMethod ov m pl)
      callWith pos' f first (backTo pos' (starEach [] X.env)) (backToKw pos' (keywordEach [] X.env))) := by rfl)
    (hst : starEach [.Call (.Attribute o m apos) [] [] pos'] X.env = (false, eval (.Call (.Attribute o m apos) [] [] pos') X.env) :: starEach [] X.env := by rfl) :
    PE X (.Call (.Name "list" p) [.Call (.Attribute o m apos) [] [] pos'] [] pos) (tListO C m sp ta) := by
  obtain ⟨f, fd, hm, hb, F⟩ := M.fn
  exact pe_listG (E := fun _ _ _ => False) (pgen_meth0 he M.c hm F (hr.mono (by omega)) hb .nil ht) (fun pins σ H s e s' I h => by
    obtain ⟨_, _, _, _, _, _, _, _, _, _, _, q⟩ := h
    exact q.2.elim) (fun cls d H h => h.elim) hr hg hmg bt_list (by decide) (by decide) hst
theorem g_listO {σ : L2.St} {H : Hp} {Q : VK} (h : ta σ H fun x H1 => ∃ a dx fs, x = .ref a ∧ H1 a = some (.ins C dx fs) ∧ fs.lookup m = none ∧ sp [x] H1 (fun out H2 => ∀ p, H2 p = none → Q (.ref p) (upd H2 p (.lst out))) fun _ _ _ => False) : tListO C m sp ta σ H Q := h
end
section
variable {σ σ' : L2.St} {H : Hp} {ys : List V} {D : GEnds} {nx : List V → L2.St → Hp → Prop} {rt : List V → VK} {bk ct : List V → L2.St → Hp → Prop}
theorem gg_start {t : TGn} (e : σ = σ') (h : t D ys σ' H) : t D ys σ H := e ▸ h
theorem g_gn0 (h : nx ys σ H) : tG0 ⟨nx, rt, bk, ct⟩ ys σ H := h
theorem g_gthen {t u : TGn} (h : t ⟨fun ys' σ' H' => u ⟨nx, rt, bk, ct⟩ ys' σ' H', rt, bk, ct⟩ ys σ H) : tGThen t u ⟨nx, rt, bk, ct⟩ ys σ H := h
theorem g_gfor {wi : TI} {g : TG} {tb : TGn} (h : wi σ H fun J H1 => ∃ W : Nat → Nat → List V → L2.St → Hp → Prop, (∃ m, W 0 m ys σ H1) ∧ ∀ i m ys σ H, W i m ys σ H →
  (J.stop i H ∧ nx ys σ H) ∨ (J.go i H ∧ ∃ N : List V → L2.St → Hp → Prop, (∀ ys' σ' H', N ys' σ' H' → ∃ m', m' < m ∧ W (i + 1) m' ys' σ' H') ∧ ∀ x H', J.yld i H x H' → g x σ H' fun σ2 H2 => tb ⟨N, rt, nx, N⟩ ys σ2 H2)) : tGFor wi g tb ⟨nx, rt, bk, ct⟩ ys σ H := h
/-- a walk within a generator, over what a walk can tell -/
theorem gl_it {J : It} {n : Nat} {G : Hp → Prop} {Y : Nat → Hp → V → Hp → Prop} (w : Walk J n G Y) {g : TG} {tb : TGn} (Pv : Nat → List V → L2.St → Hp → Prop) (h0 : Pv 0 ys σ H) (hG : ∀ i ys σ H, i ≤ n → Pv i ys σ H → G H)
    (hs : ∀ i x ys σ H H', i < n → Pv i ys σ H → Y i H x H' → g x σ H' fun σ2 H2 => tb ⟨Pv (i + 1), rt, nx, Pv (i + 1)⟩ ys σ2 H2) (hd : ∀ ys σ H, Pv n ys σ H → nx ys σ H) :
    ∃ W : Nat → Nat → List V → L2.St → Hp → Prop, (∃ m, W 0 m ys σ H) ∧ ∀ i m ys σ H, W i m ys σ H →
      (J.stop i H ∧ nx ys σ H) ∨ (J.go i H ∧ ∃ N : List V → L2.St → Hp → Prop, (∀ ys' σ' H', N ys' σ' H' → ∃ m', m' < m ∧ W (i + 1) m' ys' σ' H') ∧ ∀ x H', J.yld i H x H' → g x σ H' fun σ2 H2 => tb ⟨N, rt, nx, N⟩ ys σ2 H2) := by
  refine ⟨fun i m ys σ H => m = n - i ∧ i ≤ n ∧ Pv i ys σ H, ⟨n, by simp, Nat.zero_le _, h0⟩, ?_⟩
  rintro i m ys σ H ⟨rfl, hi, p⟩
  have q := hG i ys σ H hi p
  by_cases hlt : i < n
  · refine .inr ⟨w.goes i H hlt q, Pv (i + 1), fun ys' σ' H' p' => ⟨n - (i + 1), by omega, rfl, hlt, p'⟩, fun x H' y => ?_⟩
    exact hs i x ys σ H H' hlt p (w.yields i H x H' hlt q y)
  · have e : i = n := by omega
    subst e
    exact .inl ⟨w.stops H q, hd _ _ _ p⟩
end
end NL
/-! The brokers' state, told of the heap. -/
namespace NL
open PySem PySem.Spec PyProof.Rows L2
/-! ### edges of a broker's operations: only brokers, desks and records change -/
def nb : HO → Bool
  | .ins _ _ ((f, _) :: _) => !(f == "names" || f == "number" || f == "is_late")
  | _ => true
def Eo (H H' : Hp) : Prop := (∀ a o, nb o = true → H a = some o → H' a = some o) ∧ ∀ a, H a ≠ none → H' a ≠ none
section
variable {U : List Addr} {H H' H2 : Hp} {a p : Addr} {o : HO}
theorem Eo.refl : Eo H H := ⟨fun _ _ _ e => e, fun _ h => h⟩
theorem Eo.tr (e : Eo H H') (e2 : Eo H' H2) : Eo H H2 := ⟨fun a o n h => e2.1 a o n (e.1 a o n h), fun a h => e2.2 a (e.2 a h)⟩
theorem Eo.get (e : Eo H H') (h : H a = some o) (n : nb o = true := by rfl) : H' a = some o := e.1 a o n h
theorem Eo.free (e : Eo H H') (h : H' a = none) : H a = none := by
  cases q : H a with
  | none => rfl
  | some o => exact absurd h (e.2 a (by rw [q]; simp))
theorem Eo.ed0 (e : Ed [] H H') : Eo H H' := ⟨fun a o _ h => e.1 a o List.not_mem_nil h, e.2⟩
theorem Eo.new (hp : H p = none) : Eo H (upd H p o) := .ed0 (Ed.new hp)
theorem Eo.put {o' : HO} (hp : H p = some o) (n : nb o = false) : Eo H (upd H p o') := ⟨fun a u m h => by
  rw [upd_ne (fun z => by rw [z, hp] at h; cases h; rw [n] at m; cases m)]; exact h, Ed.put.2⟩
end
/-! ### facts that move from heap to heap -/
/-- H' has what H has, but for cells -/
def Mv (H H' : Hp) : Prop := ∀ a o, (∀ b, o ≠ .frz b (CelX a)) → H a = some o → H' a = some o
theorem Mv.ed0 {H H' : Hp} (e : Ed [] H H') : Mv H H' := fun a o _ h => e.1 a o List.not_mem_nil h
theorem Mv.hid {cs : List Addr} {H : Hp} (T : Told cs H) : Mv H (hid cs H) := fun a o n h => by rw [hid_out (T.out h n)]; exact h
theorem Mv.tr {H H' H2 : Hp} (m : Mv H H') (m2 : Mv H' H2) : Mv H H2 := fun a o n h => m2 a o n (m a o n h)
theorem put_sub {cs : List Addr} {H H' : Hp} (v : Vac cs H') {a : Addr} {o : HO} (h : H' a = some o) : put cs H H' a = some o := by
  rw [put_out (fun z => by rw [v a z] at h; cases h)]; exact h
theorem Mv.put {cs : List Addr} {H H' : Hp} (v : Vac cs H') : Mv H' (put cs H H') := fun a o _ h => put_sub v h
/-- what a body does behind hidden cells, told with the cells -/
theorem ed_put {U cs : List Addr} {H H' : Hp} (e : Ed U (hid cs H) H') : Ed U H (put cs H H') := ⟨fun a o n h => by
  by_cases ha : a ∈ cs
  · rw [put_in ha]; exact h
  · rw [put_out ha]; exact e.1 a o n (by rw [hid_out ha]; exact h), fun a h => by
  by_cases ha : a ∈ cs
  · rw [put_in ha]; exact h
  · rw [put_out ha]; exact e.2 a (by rw [hid_out ha]; exact h)⟩
theorem lst_ncel {xs : List V} {c : HO} (b : Obj) : HO.lst xs ≠ .frz b c := (fun z => nomatch z)
theorem tup_ncel {xs : List V} {c : HO} (b : Obj) : HO.tup xs ≠ .frz b c := (fun z => nomatch z)
mutual
theorem Df.mv {W : List Addr} {H H' : Hp} (m : Mv H H') (al : ∀ a, H a ≠ none → H' a ≠ none) : ∀ {v : L2.V} {d : PyData}, Df W H v d → Df W H' v d
  | _, _, .non => .non
  | _, _, .bl b => .bl b
  | _, _, .int b => .int b
  | _, _, .str b => .str b
  | _, _, .obj n h => .obj n (al _ h)
  | _, _, .lst n h r => .lst n (m _ _ lst_ncel h) (DfAll.mv m al r)
  | _, _, .tup n h r => .tup n (m _ _ tup_ncel h) (DfAll.mv m al r)
theorem DfAll.mv {W : List Addr} {H H' : Hp} (m : Mv H H') (al : ∀ a, H a ≠ none → H' a ≠ none) : ∀ {vs : List L2.V} {ds : List PyData}, DfAll W H vs ds → DfAll W H' vs ds
  | _, _, .nil => .nil
  | _, _, .cons h r => .cons (Df.mv m al h) (DfAll.mv m al r)
end
mutual
theorem Df.eo {W : List Addr} {H H' : Hp} (e : Eo H H') : ∀ {v : L2.V} {d : PyData}, Df W H v d → Df W H' v d
  | _, _, .non => .non
  | _, _, .bl b => .bl b
  | _, _, .int b => .int b
  | _, _, .str b => .str b
  | _, _, .obj n h => .obj n (e.2 _ h)
  | _, _, .lst n h r => .lst n (e.get h) (DfAll.eo e r)
  | _, _, .tup n h r => .tup n (e.get h) (DfAll.eo e r)
theorem DfAll.eo {W : List Addr} {H H' : Hp} (e : Eo H H') : ∀ {vs : List L2.V} {ds : List PyData}, DfAll W H vs ds → DfAll W H' vs ds
  | _, _, .nil => .nil
  | _, _, .cons h r => .cons (Df.eo e h) (DfAll.eo e r)
end
theorem Wl.eo {W : List Addr} {H H' : Hp} (w : Wl W H) (e : Eo H H') : Wl W H' := fun a h => e.2 a (w a h)
/-! ### a broker -/
structure Rec where
  a : Addr
  dx : Addr
  req : Str
  sent : V
  call : V
  cg : Bool
structure Dsk where
  a : Addr
  dx : Addr
  name : Str
  late : Bool
  src : V
  hand : Bool
structure Ent where
  name : Str
  num : Nat
  tup : Addr
  rad : Addr
  wt : Addr
  ws : List V
structure BSt where
  dx : Addr
  nl : Addr
  dd : Addr
  en : Addr
  eb : V
  ds : List Dsk
  es : List Ent
  rs : List Rec
  dp : Int
abbrev Rec.o (K : PySem.W.Frag) (i : Nat) (r : Rec) : HO := .ins (He.ga K "Record") r.dx [("number", .int i), ("request", .str r.req), ("sent", r.sent), ("call", r.call), ("owner", .non), ("is_calling", .bl r.cg)]
abbrev Dsk.o (K : PySem.W.Frag) (d : Dsk) : HO := .ins (He.ga K "Desk") d.dx [("is_late", .bl d.late), ("source", d.src), ("is_handling", .bl d.hand)]
abbrev BSt.o (K : PySem.W.Frag) (S : BSt) : HO := .ins (He.ga K "Broker") S.dx [("names", .ref S.nl), ("desks", .ref S.dd), ("entries", .ref S.en), ("entries_before", S.eb), ("made", .int S.rs.length), ("depth", .int S.dp)]
abbrev BSt.ns (S : BSt) : List Str := S.ds.map (·.name)
abbrev dkv (ds : List Dsk) : List (Key × V) := ds.map fun d => (.inr d.name, .ref d.a)
abbrev ekv (es : List Ent) : List (Key × V) := es.map fun e => (.inr e.name, .ref e.tup)
def lk (l : Option Obj) (u : HO) : HO := match l with
  | none => u
  | some od => .frz od u
structure BrkL (K : PySem.W.Frag) (H : Hp) (b : Addr) (l : Option Obj) (S : BSt) : Prop where
  hb : H b = some (S.o K)
  hn : H S.nl = some (.lst (S.ns.map V.str))
  hd : H S.dd = some (.dK (dkv S.ds))
  he : H S.en = some (lk l (.dK (ekv S.es)))
  ds : ∀ d ∈ S.ds, H d.a = some (d.o K)
  rs : ∀ (i : Nat) (r : Rec), S.rs[i]? = some r → H r.a = some (r.o K i)
  es : ∀ e ∈ S.es, H e.tup = some (.tup [.ref e.rad, .ref e.wt]) ∧ H e.wt = some (.tup e.ws) ∧ ∃ r : Rec, S.rs[e.num]? = some r ∧ r.a = e.rad ∧ r.req = e.name
  nd : S.ns.Nodup
  da : (S.ds.map (·.a)).Nodup
  ra : (S.rs.map (·.a)).Nodup
  ee : (S.es.map (·.name)).Nodup
  en : ∀ e ∈ S.es, e.name ∈ S.ns
  nz : S.ns.length ≤ 1000
  de : S.dd ≠ S.en
abbrev Brk (K : PySem.W.Frag) (H : Hp) (b : Addr) (S : BSt) : Prop := BrkL K H b none S
section
variable {K : PySem.W.Frag} {H H' : Hp} {b a : Addr} {l : Option Obj} {S : BSt}
theorem lk_ncel {l : Option Obj} {kvs : List (Key × V)} {a : Addr} (b : Obj) : lk l (.dK kvs) ≠ .frz b (CelX a) := by
  cases l with
  | none => exact (fun z => nomatch z)
  | some od => exact (fun z => nomatch z)
/-- whatever keeps what is not a cell -/
theorem BrkL.mv (B : BrkL K H b l S) (m : Mv H H') : BrkL K H' b l S :=
  ⟨m _ _ (fun b z => nomatch z) B.hb, m _ _ (fun b z => nomatch z) B.hn, m _ _ (fun b z => nomatch z) B.hd, m _ _ lk_ncel B.he, fun d h => m _ _ (fun b z => nomatch z) (B.ds d h), fun i r h => m _ _ (fun b z => nomatch z) (B.rs i r h),
    fun e h => ⟨m _ _ (fun b z => nomatch z) (B.es e h).1, m _ _ (fun b z => nomatch z) (B.es e h).2.1, (B.es e h).2.2⟩, B.nd, B.da, B.ra, B.ee, B.en, B.nz, B.de⟩
theorem BrkL.ed0 (B : BrkL K H b l S) (e : Ed [] H H') : BrkL K H' b l S := B.mv (.ed0 e)
/-- lists that are no part of it change -/
theorem Brk.ed {U : List Addr} (B : Brk K H b S) (e : Ed U H H') (hU : ∀ a ∈ U, (∃ xs, H a = some (.lst xs)) ∧ a ≠ S.nl) : Brk K H' b S := by
  have g : ∀ a o, (∀ xs, o ≠ .lst xs) → H a = some o → H' a = some o := fun a o n h => e.1 a o (fun z => by
    obtain ⟨⟨xs, q⟩, _⟩ := hU a z
    rw [h] at q
    exact n xs (Option.some.inj q)) h
  exact ⟨g _ _ (fun _ z => nomatch z) B.hb, e.1 _ _ (fun z => (hU _ z).2 rfl) B.hn, g _ _ (fun _ z => nomatch z) B.hd, g _ _ (fun _ z => nomatch z) B.he, fun d h => g _ _ (fun _ z => nomatch z) (B.ds d h), fun i r h => g _ _ (fun _ z => nomatch z) (B.rs i r h),
    fun e h => ⟨g _ _ (fun _ z => nomatch z) (B.es e h).1, g _ _ (fun _ z => nomatch z) (B.es e h).2.1, (B.es e h).2.2⟩, B.nd, B.da, B.ra, B.ee, B.en, B.nz, B.de⟩
/-! what is not what -/
theorem ne_rb {i : Nat} {r : Rec} (h1 : H b = some (S.o K)) (h2 : H r.a = some (r.o K i)) : r.a ≠ b := fun z => by
  rw [z, h1] at h2; simp [BSt.o, Rec.o] at h2
theorem ne_db {d : Dsk} (h1 : H b = some (S.o K)) (h2 : H d.a = some (d.o K)) : d.a ≠ b := fun z => by
  rw [z, h1] at h2; simp [BSt.o, Dsk.o] at h2
theorem ne_rd {i : Nat} {r : Rec} {d : Dsk} (h1 : H r.a = some (r.o K i)) (h2 : H d.a = some (d.o K)) : d.a ≠ r.a := fun z => by
  rw [z, h1] at h2; simp [Rec.o, Dsk.o] at h2
/-- the broker's own fields change: depth, entries before, entries -/
theorem BrkL.setB {S' : BSt} {l' : Option Obj} (B : BrkL K H b l S) (e1 : S'.nl = S.nl) (e2 : S'.dd = S.dd) (e3 : S'.ds = S.ds) (e4 : S'.rs = S.rs) (he : H S'.en = some (lk l' (.dK (ekv S'.es)))) (nb : S'.en ≠ b)
    (es : ∀ e ∈ S'.es, H e.tup = some (.tup [.ref e.rad, .ref e.wt]) ∧ H e.wt = some (.tup e.ws) ∧ ∃ r : Rec, S.rs[e.num]? = some r ∧ r.a = e.rad ∧ r.req = e.name) (ee : (S'.es.map (·.name)).Nodup) (en : ∀ e ∈ S'.es, e.name ∈ S.ns) (de : S.dd ≠ S'.en) : BrkL K (upd H b (S'.o K)) b l' S' := by
  have g : ∀ a o, H a = some o → o ≠ S.o K → upd H b (S'.o K) a = some o := fun a o h n => by
    rw [upd_ne (fun z => by rw [z, B.hb] at h; exact n (Option.some.inj h).symm)]; exact h
  refine ⟨upd_same, ?_, ?_, ?_, fun d h => ?_, fun i r h => ?_, fun e h => ?_, ?_, ?_, ?_, ee, ?_, ?_, by rw [e2]; exact de⟩
  · rw [e1, BSt.ns, e3]; exact g _ _ B.hn (fun z => nomatch z)
  · rw [e2, e3]; exact g _ _ B.hd (fun z => nomatch z)
  · rw [upd_ne nb]; exact he
  · rw [e3] at h
    have q := B.ds d h
    rw [upd_ne (ne_db B.hb q)]; exact q
  · rw [e4] at h
    have q := B.rs i r h
    rw [upd_ne (ne_rb B.hb q)]; exact q
  · rw [e4]
    obtain ⟨h1, h2, h3⟩ := es e h
    exact ⟨g _ _ h1 (fun z => nomatch z), g _ _ h2 (fun z => nomatch z), h3⟩
  · rw [BSt.ns, e3]; exact B.nd
  · rw [e3]; exact B.da
  · rw [e4]; exact B.ra
  · rw [BSt.ns, e3]; exact en
  · rw [BSt.ns, e3]; exact B.nz
/-- a record's field changes -/
theorem BrkL.setR {n : Nat} {r r' : Rec} (B : BrkL K H b l S) (hr : S.rs[n]? = some r) (ea : r'.a = r.a) (eq : r'.req = r.req) : BrkL K (upd H r.a (r'.o K n)) b l { S with rs := S.rs.set n r' } := by
  have q := B.rs n r hr
  have ln : (S.rs.set n r').length = S.rs.length := List.length_set ..
  have hlt : n < S.rs.length := (List.getElem?_eq_some_iff.mp hr).1
  have g : ∀ a o, H a = some o → o ≠ r.o K n → upd H r.a (r'.o K n) a = some o := fun a o h n => by
    rw [upd_ne (fun z => by rw [z, q] at h; exact n (Option.some.inj h).symm)]; exact h
  have gr : ∀ i s, (S.rs.set n r')[i]? = some s → (i = n ∧ s = r') ∨ (i ≠ n ∧ S.rs[i]? = some s) := fun i s h => by
    rw [List.getElem?_set] at h
    by_cases e : n = i
    · rw [if_pos e, if_pos hlt] at h
      exact .inl ⟨e.symm, (Option.some.inj h).symm⟩
    · rw [if_neg e] at h
      exact .inr ⟨fun z => e z.symm, h⟩
  have map_a : (S.rs.set n r').map (·.a) = S.rs.map (·.a) := by
    refine List.ext_getElem? fun i => ?_
    rw [List.getElem?_map, List.getElem?_map, List.getElem?_set]
    by_cases e : n = i
    · rw [if_pos e, if_pos hlt, ← e, hr]; simp [ea]
    · rw [if_neg e]
  refine ⟨?_, g _ _ B.hn (fun z => nomatch z), g _ _ B.hd (fun z => nomatch z), g _ _ B.he fun z => ?_, fun d h => ?_, fun i s h => ?_, fun e h => ?_, B.nd, B.da, ?_, B.ee, B.en, B.nz, B.de⟩
  · rw [upd_ne (Ne.symm (ne_rb B.hb q))]
    show H b = some (BSt.o K _)
    rw [BSt.o, ln]
    exact B.hb
  · cases l <;> cases z
  · have hd := B.ds d h
    rw [upd_ne (ne_rd q hd)]; exact hd
  · rcases gr i s h with ⟨rfl, rfl⟩ | ⟨ne, hs⟩
    · rw [ea]; exact upd_same
    · have hs' := B.rs i s hs
      rw [upd_ne (fun z => ne ?_)]
      · exact hs'
      · have nd := B.ra
        have l1 : i < S.rs.length := (List.getElem?_eq_some_iff.mp hs).1
        have e1 : (S.rs.map (·.a))[i]? = some s.a := by rw [List.getElem?_map, hs]; rfl
        have e2 : (S.rs.map (·.a))[n]? = some s.a := by rw [List.getElem?_map, hr]; simp [z]
        exact (List.getElem?_inj (by rw [List.length_map]; exact l1) nd).mp (e1.trans e2.symm)
  · obtain ⟨h1, h2, s, h3, h4, h5⟩ := B.es e h
    refine ⟨g _ _ h1 (fun z => nomatch z), g _ _ h2 (fun z => nomatch z), ?_⟩
    by_cases en : e.num = n
    · refine ⟨r', ?_, ?_, ?_⟩
      · show (S.rs.set n r')[e.num]? = some r'
        rw [List.getElem?_set, if_pos en.symm, if_pos hlt]
      · rw [en, hr] at h3; cases h3; rw [ea]; exact h4
      · rw [en, hr] at h3; cases h3; rw [eq]; exact h5
    · refine ⟨s, ?_, h4, h5⟩
      show (S.rs.set n r')[e.num]? = some s
      rw [List.getElem?_set, if_neg (fun z => en z.symm)]; exact h3
  · show ((S.rs.set n r').map (·.a)).Nodup
    rw [map_a]; exact B.ra
/-- a record more: it lies in the heap, made counts it -/
theorem BrkL.newR {r : Rec} (B : BrkL K H b l S) (h : H r.a = some (r.o K S.rs.length)) (fr : ∀ s ∈ S.rs, s.a ≠ r.a) : BrkL K (upd H b ({ S with rs := S.rs ++ [r] }.o K)) b l { S with rs := S.rs ++ [r] } := by
  have g : ∀ a o, H a = some o → o ≠ S.o K → upd H b ({ S with rs := S.rs ++ [r] }.o K) a = some o := fun a o h n => by
    rw [upd_ne (fun z => by rw [z, B.hb] at h; exact n (Option.some.inj h).symm)]; exact h
  refine ⟨upd_same, g _ _ B.hn (fun z => nomatch z), g _ _ B.hd (fun z => nomatch z), g _ _ B.he fun z => ?_, fun d hd => ?_, fun i s hs => ?_, fun e he => ?_, B.nd, B.da, ?_, B.ee, B.en, B.nz, B.de⟩
  · cases l <;> cases z
  · have q := B.ds d hd
    rw [upd_ne (ne_db B.hb q)]; exact q
  · have hs : (S.rs ++ [r])[i]? = some s := hs
    rw [List.getElem?_append] at hs
    by_cases hi : i < S.rs.length
    · rw [if_pos hi] at hs
      have q := B.rs i s hs
      rw [upd_ne (ne_rb B.hb q)]; exact q
    · rw [if_neg hi] at hs
      cases e : i - S.rs.length with
      | zero =>
        rw [e] at hs
        cases hs
        have : i = S.rs.length := by omega
        rw [this, upd_ne (ne_rb B.hb h)]; exact h
      | succ n => rw [e] at hs; cases hs
  · obtain ⟨h1, h2, s, h3, h4⟩ := B.es e he
    refine ⟨g _ _ h1 (fun z => nomatch z), g _ _ h2 (fun z => nomatch z), s, ?_, h4⟩
    show (S.rs ++ [r])[e.num]? = some s
    rw [List.getElem?_append_left (List.getElem?_eq_some_iff.mp h3).1]; exact h3
  · show ((S.rs ++ [r]).map (·.a)).Nodup
    rw [List.map_append, List.nodup_append]
    refine ⟨B.ra, by simp, fun x hx y hy => ?_⟩
    obtain ⟨s, hs, rfl⟩ := List.mem_map.mp hx
    have : y = r.a := by simpa using hy
    rw [this]
    exact fr s hs
end
/-! ### looks at a broker -/
section
variable {K : PySem.W.Frag} {H H' : Hp} {b a p : Addr} {l : Option Obj} {S : BSt} {nm : Str} {σ : L2.St} {Q : VK}
def BSt.fe (S : BSt) (nm : Str) : Option Ent := S.es.find? fun e => decide (e.name = nm)
def BSt.cur (S : BSt) (n : Nat) (r : Rec) : Bool := match S.fe r.req with
  | some e => decide (e.num = n)
  | none => false
theorem fe_mem {e : Ent} (h : S.fe nm = some e) : e ∈ S.es ∧ e.name = nm := ⟨List.mem_of_find?_eq_some h, by simpa using List.find?_some h⟩
theorem find_nd : ∀ {es : List Ent}, (es.map (·.name)).Nodup → ∀ {e : Ent}, e ∈ es → es.find? (fun x => decide (x.name = e.name)) = some e
  | [], _, e, h => by cases h
  | x :: es, nd, e, h => by
    rw [List.map_cons, List.nodup_cons] at nd
    rw [List.find?_cons]
    by_cases z : x.name = e.name
    · rcases List.mem_cons.mp h with rfl | h
      · simp
      · exact absurd (List.mem_map.mpr ⟨e, h, z.symm⟩) nd.1
    · rcases List.mem_cons.mp h with rfl | h
      · exact absurd rfl z
      · simp [z, find_nd nd.2 h]
theorem fe_at {e : Ent} (nd : (S.es.map (·.name)).Nodup) (h : e ∈ S.es) : S.fe e.name = some e := find_nd nd h
theorem val_ekv : ∀ {es : List Ent} {nm : Str}, valV (ekv es) (.inr nm) = (es.find? fun e => decide (e.name = nm)).map fun e => .ref e.tup
  | [], _ => rfl
  | e :: es, nm => by
    show valV ((Sum.inr e.name, V.ref e.tup) :: ekv es) (.inr nm) = _
    rw [List.find?_cons]
    by_cases z : e.name = nm
    · rw [valV_pos (by rw [z])]; simp [z]
    · rw [valV_neg (fun w => z (Sum.inr.inj w)), val_ekv]; simp [z]
theorem val_dkv : ∀ {ds : List Dsk} {nm : Str}, valV (dkv ds) (.inr nm) = (ds.find? fun d => decide (d.name = nm)).map fun d => .ref d.a
  | [], _ => rfl
  | e :: es, nm => by
    show valV ((Sum.inr e.name, V.ref e.a) :: dkv es) (.inr nm) = _
    rw [List.find?_cons]
    by_cases z : e.name = nm
    · rw [valV_pos (by rw [z])]; simp [z]
    · rw [valV_neg (fun w => z (Sum.inr.inj w)), val_dkv]; simp [z]
theorem findD_nd : ∀ {es : List Dsk}, (es.map (·.name)).Nodup → ∀ {e : Dsk}, e ∈ es → es.find? (fun x => decide (x.name = e.name)) = some e
  | [], _, e, h => by cases h
  | x :: es, nd, e, h => by
    rw [List.map_cons, List.nodup_cons] at nd
    rw [List.find?_cons]
    by_cases z : x.name = e.name
    · rcases List.mem_cons.mp h with rfl | h
      · simp
      · exact absurd (List.mem_map.mpr ⟨e, h, z.symm⟩) nd.1
    · rcases List.mem_cons.mp h with rfl | h
      · exact absurd rfl z
      · simp [z, findD_nd nd.2 h]
theorem BrkL.desk {d : Dsk} (B : BrkL K H b l S) (h : d ∈ S.ds) : valV (dkv S.ds) (.inr d.name) = some (.ref d.a) := by
  rw [val_dkv, findD_nd B.nd h]; rfl
theorem BrkL.rd (B : BrkL K H b l S) : Rd H S.en (.dK (ekv S.es)) := by
  cases l with
  | none => exact .inl B.he
  | some od => exact .inr ⟨od, B.he⟩
/-- every entry's record is current -/
theorem BrkL.cur_e {e : Ent} {r : Rec} (B : BrkL K H b l S) (h : e ∈ S.es) (hr : S.rs[e.num]? = some r) : S.cur e.num r = true := by
  obtain ⟨_, _, r', h3, _, h5⟩ := B.es e h
  rw [hr] at h3
  cases h3
  unfold BSt.cur
  rw [h5, fe_at B.ee h]
  simp
theorem nd_len {α : Type} [DecidableEq α] : ∀ {xs ys : List α}, xs.Nodup → (∀ x ∈ xs, x ∈ ys) → xs.length ≤ ys.length
  | [], _, _, _ => Nat.zero_le _
  | x :: xs, ys, nd, h => by
    rw [List.nodup_cons] at nd
    have hx := h x (List.mem_cons_self ..)
    have := nd_len (ys := ys.erase x) nd.2 fun y hy => (List.mem_erase_of_ne (fun z => nd.1 (by rw [← z]; exact hy))).mpr (h y (List.mem_cons_of_mem _ hy))
    rw [List.length_erase_of_mem hx] at this
    have hp : 0 < ys.length := List.length_pos_of_mem hx
    rw [List.length_cons]
    omega
theorem BrkL.es_len (B : BrkL K H b l S) : S.es.length ≤ 1000 := by
  have h1 : (S.es.map (·.name)).length ≤ S.ns.length := nd_len B.ee fun x hx => by
    obtain ⟨e, he, rfl⟩ := List.mem_map.mp hx
    exact B.en e he
  rw [List.length_map] at h1
  exact Nat.le_trans h1 B.nz
theorem BrkL.ne_en {o : HO} (B : BrkL K H b l S) (h : H a = some o) (n : ∀ kvs, o ≠ .dK kvs) (n2 : ∀ od u, o ≠ .frz od u) : a ≠ S.en := fun z => by
  rw [z, B.he] at h
  cases l with
  | none => exact n _ (Option.some.inj h).symm
  | some od => exact n2 _ _ (Option.some.inj h).symm
/-- the entries are locked -/
theorem BrkL.lock (B : Brk K H b S) (od : Obj) : BrkL K (upd H S.en (.frz od (.dK (ekv S.es)))) b (some od) S := by
  have g : ∀ a o, H a = some o → (∀ kvs, o ≠ .dK kvs) → upd H S.en (.frz od (.dK (ekv S.es))) a = some o := fun a o h n => by
    rw [upd_ne (fun z => by rw [z, B.he] at h; exact n _ (Option.some.inj h).symm)]; exact h
  exact ⟨g _ _ B.hb (fun _ z => nomatch z), g _ _ B.hn (fun _ z => nomatch z), by rw [upd_ne B.de]; exact B.hd, upd_same, fun d h => g _ _ (B.ds d h) (fun _ z => nomatch z), fun i r h => g _ _ (B.rs i r h) (fun _ z => nomatch z),
    fun e h => ⟨g _ _ (B.es e h).1 (fun _ z => nomatch z), g _ _ (B.es e h).2.1 (fun _ z => nomatch z), (B.es e h).2.2⟩, B.nd, B.da, B.ra, B.ee, B.en, B.nz, B.de⟩
theorem g_dget1 {td ty : TE} (h : td σ H fun x H1 => ∃ a, x = .ref a ∧ IsD H1 a ∧ ty σ H1 fun y H2 => ∃ o, DGet H2 a y o ∧ Q (o.getD .non) H2) : tDGet1 td ty σ H Q := h
theorem g_isdk {kvs : List (Key × V)} {Z : Addr → Prop} (z1 : Rd H p (.dK kvs)) (h : Z p) : ∃ a, V.ref p = .ref a ∧ IsD H a ∧ Z a := ⟨p, rfl, .inl ⟨kvs, z1⟩, h⟩
theorem g_dgk {kvs : List (Key × V)} {z : Str} {Z : Option V → Prop} (z1 : Rd H p (.dK kvs)) (h : Z (valV kvs (.inr z))) : ∃ o, DGet H p (.str z) o ∧ Z o := ⟨_, .inl ⟨kvs, .inr z, z1, rfl, rfl⟩, h⟩
theorem g_dgr {kvs : List (Key × V)} {z : Str} {v : V} {Z : V → Prop} (z1 : Rd H p (.dK kvs)) (z2 : valV kvs (.inr z) = some v) (h : Z v) : ∃ a v, V.ref p = .ref a ∧ DGet H a (.str z) (some v) ∧ Z v :=
  ⟨p, v, rfl, .inl ⟨kvs, .inr z, z1, rfl, z2.symm⟩, h⟩
end
theorem iteT' {b : Bool} {A B : Prop} (e : b = true) (h : A) : if b = true then A else B := g_iteT e h
theorem iteF' {b : Bool} {A B : Prop} (e : b = false) (h : B) : if b = true then A else B := g_iteF e h
theorem ekv_at {es : List Ent} {i : Nat} {k : Key} {v : V} (h : (ekv es)[i]? = some (k, v)) : ∃ e, es[i]? = some e ∧ (k, v) = (Sum.inr e.name, V.ref e.tup) := by
  rw [List.getElem?_map] at h
  cases e : es[i]? with
  | none => rw [e] at h; cases h
  | some x => rw [e] at h; exact ⟨x, rfl, (Option.some.inj h).symm⟩
theorem g_rn1 {x : Addr} {A B : Prop} (h : B) : if decide (V.ref x = V.non) = true then A else B := g_iteF (by simp) h
theorem g_rn2 {x : Addr} {A B : Prop} (h : A) : if (!decide (V.ref x = V.non)) = true then A else B := g_iteT (by simp) h
theorem g_rn3 {A B : Prop} (h : B) : if (!decide (V.non = V.non)) = true then A else B := g_iteF (by simp) h
def BSt.has (S : BSt) (nm : Str) : Bool := (S.fe nm).isSome
/-- the entry of a request is taken away; the entries are a new dict -/
def BSt.closed (S : BSt) (nm : Str) (en : Addr) : BSt := { S with en := en, es := S.es.filter fun e => !decide (e.name = nm) }
/-- a dict D that is built while all else stays -/
structure Pcl (H0 : Hp) (D : Addr) (kvs : List (Key × V)) (H : Hp) : Prop where
  keep : ∀ a o, a ≠ D → H0 a = some o → H a = some o
  live : ∀ a, H0 a ≠ none → H a ≠ none
  at_ : H D = some (.dK kvs)
theorem Pcl.start {H0 : Hp} {D : Addr} (h : H0 D = none) : Pcl H0 D [] (upd H0 D (.dK [])) := ⟨fun a o n e => by rw [upd_ne n]; exact e, fun a e => by
  rw [upd_ne (fun z => e (by rw [z]; exact h))]; exact e, upd_same⟩
theorem Pcl.new {H0 H : Hp} {D p : Addr} {kvs : List (Key × V)} {o : HO} (P : Pcl H0 D kvs H) (h : H p = none) : Pcl H0 D kvs (upd H p o) := ⟨fun a o n e => by
  have := P.keep a o n e
  rw [upd_ne (ne_of_none this h)]; exact this, fun a e => by
  by_cases z : a = p
  · rw [z, upd_same]; simp
  · rw [upd_ne z]; exact P.live a e, by rw [upd_ne (ne_of_none P.at_ h)]; exact P.at_⟩
theorem Pcl.put {H0 H : Hp} {D : Addr} {kvs kvs' : List (Key × V)} (P : Pcl H0 D kvs H) : Pcl H0 D kvs' (upd H D (.dK kvs')) := ⟨fun a o n e => by rw [upd_ne n]; exact P.keep a o n e, fun a e => by
  by_cases z : a = D
  · rw [z, upd_same]; simp
  · rw [upd_ne z]; exact P.live a e, upd_same⟩
theorem val_no : ∀ {es : List Ent} {nm : Str}, (∀ x ∈ es, x.name ≠ nm) → valV (ekv es) (.inr nm) = none := fun {es nm} h => by
  rw [val_ekv, List.find?_eq_none.mpr (fun x hx => by simpa using h x hx)]; rfl
theorem ekv_put {es : List Ent} {e : Ent} (h : ∀ x ∈ es, x.name ≠ e.name) : putK (ekv es) (.inr e.name) (.ref e.tup) = ekv (es ++ [e]) := by
  unfold putK
  rw [valV_any, val_no h]
  simp [ekv]
section
variable {K : PySem.W.Frag} {H H' : Hp} {b a p : Addr} {l : Option Obj} {S : BSt}
theorem BrkL.ne_enb (B : BrkL K H b l S) : S.en ≠ b := Ne.symm (B.ne_en B.hb (fun _ z => nomatch z) fun _ _ z => nomatch z)
theorem BrkL.setDp (B : BrkL K H b l S) (x : Int) : BrkL K (upd H b ({ S with dp := x }.o K)) b l { S with dp := x } :=
  B.setB (S' := { S with dp := x }) (l' := l) rfl rfl rfl rfl B.he B.ne_enb (fun e he => B.es e he) B.ee B.en B.de
theorem BrkL.setEb (B : BrkL K H b l S) (x : V) : BrkL K (upd H b ({ S with eb := x }.o K)) b l { S with eb := x } :=
  B.setB (S' := { S with eb := x }) (l' := l) rfl rfl rfl rfl B.he B.ne_enb (fun e he => B.es e he) B.ee B.en B.de
/-- a desk's field changes -/
theorem BrkL.setD {n : Nat} {d d' : Dsk} (B : BrkL K H b l S) (hr : S.ds[n]? = some d) (ea : d'.a = d.a) (eq : d'.name = d.name) : BrkL K (upd H d.a (d'.o K)) b l { S with ds := S.ds.set n d' } := by
  have q := B.ds d (List.mem_of_getElem? hr)
  have hlt : n < S.ds.length := (List.getElem?_eq_some_iff.mp hr).1
  have g : ∀ a o, H a = some o → o ≠ d.o K → upd H d.a (d'.o K) a = some o := fun a o h n => by
    rw [upd_ne (fun z => by rw [z, q] at h; exact n (Option.some.inj h).symm)]; exact h
  have gr : ∀ i s, (S.ds.set n d')[i]? = some s → (i = n ∧ s = d') ∨ (i ≠ n ∧ S.ds[i]? = some s) := fun i s h => by
    rw [List.getElem?_set] at h
    by_cases e : n = i
    · rw [if_pos e, if_pos hlt] at h
      exact .inl ⟨e.symm, (Option.some.inj h).symm⟩
    · rw [if_neg e] at h
      exact .inr ⟨fun z => e z.symm, h⟩
  have mp : ∀ {α : Type} (f : Dsk → α), f d' = f d → (S.ds.set n d').map f = S.ds.map f := fun f ef => by
    refine List.ext_getElem? fun i => ?_
    rw [List.getElem?_map, List.getElem?_map, List.getElem?_set]
    by_cases e : n = i
    · rw [if_pos e, if_pos hlt, ← e, hr]; simp [ef]
    · rw [if_neg e]
  have mn : (S.ds.set n d').map (·.name) = S.ds.map (·.name) := mp _ eq
  have ma : (S.ds.set n d').map (·.a) = S.ds.map (·.a) := mp _ ea
  have mk : dkv (S.ds.set n d') = dkv S.ds := mp (fun d => ((Sum.inr d.name : Key), V.ref d.a)) (by rw [eq, ea])
  refine ⟨?_, ?_, ?_, g _ _ B.he fun z => ?_, fun s h => ?_, fun i r h => ?_, fun e h => ?_, ?_, ?_, B.ra, B.ee, fun e h => ?_, ?_, B.de⟩
  · rw [upd_ne (Ne.symm (ne_db B.hb q))]; exact B.hb
  · show upd H d.a _ S.nl = some (.lst (((S.ds.set n d').map (·.name)).map V.str))
    rw [mn]; exact g _ _ B.hn (fun z => nomatch z)
  · show upd H d.a _ S.dd = some (.dK (dkv (S.ds.set n d')))
    rw [mk]; exact g _ _ B.hd (fun z => nomatch z)
  · cases l <;> cases z
  · obtain ⟨i, hi⟩ := List.mem_iff_getElem?.mp h
    rcases gr i s hi with ⟨rfl, rfl⟩ | ⟨ne, hs⟩
    · rw [ea]; exact upd_same
    · have hs' := B.ds s (List.mem_of_getElem? hs)
      rw [upd_ne (fun z => ne ?_)]
      · exact hs'
      · have l1 : i < S.ds.length := (List.getElem?_eq_some_iff.mp hs).1
        have e1 : (S.ds.map (·.a))[i]? = some s.a := by rw [List.getElem?_map, hs]; rfl
        have e2 : (S.ds.map (·.a))[n]? = some s.a := by rw [List.getElem?_map, hr]; simp [z]
        exact (List.getElem?_inj (by rw [List.length_map]; exact l1) B.da).mp (e1.trans e2.symm)
  · have hd := B.rs i r h
    rw [upd_ne (Ne.symm (ne_rd hd q))]; exact hd
  · obtain ⟨h1, h2, h3⟩ := B.es e h
    exact ⟨g _ _ h1 (fun z => nomatch z), g _ _ h2 (fun z => nomatch z), h3⟩
  · show ((S.ds.set n d').map (·.name)).Nodup
    rw [mn]; exact B.nd
  · show ((S.ds.set n d').map (·.a)).Nodup
    rw [ma]; exact B.da
  · show e.name ∈ (S.ds.set n d').map (·.name)
    rw [mn]; exact B.en e h
  · show ((S.ds.set n d').map (·.name)).length ≤ 1000
    rw [mn]; exact B.nz
theorem g_finX {tb : WX → TS} {tf tfs : TS} {Wout : WX} {D : Ends} {σ : L2.St} {H : Hp} (h : tb (wFin tfs Wout) { nx := fun σ1 H1 => tf D σ1 H1, rt := fun _ _ => False } σ H) : tFinX tb tf tfs Wout D σ H := h
end
theorem set_at {α : Type} {l : List α} {n : Nat} {x y : α} (h : l[n]? = some x) : (l.set n y)[n]? = some y := by
  rw [List.getElem?_set, if_pos rfl, if_pos (List.getElem?_eq_some_iff.mp h).1]
theorem Ed.new2 {H H' : Hp} {x dx : Addr} {o1 o2 : HO} (h : upd (upd H dx o1) x o2 = H') (hx : H x = none) (hd : H dx = none) (hn : dx ≠ x) : Ed [] H H' ∧ H' x = some o2 := by
  subst h
  exact ⟨(Ed.new hd).tr (Ed.new (by rw [upd_ne hn.symm]; exact hx)) no0, upd_same⟩
theorem set_set {α : Type} {l : List α} {n : Nat} {x y : α} : (l.set n x).set n y = l.set n y := List.set_set ..
def Ent.upd (nm : Str) (n : Nat) (tp ra wt : Addr) (v : V) (x : Ent) : Ent := if x.name = nm then ⟨x.name, n, tp, ra, wt, [v]⟩ else x
theorem Ent.upd_name {nm : Str} {n : Nat} {tp ra wt : Addr} {v : V} {x : Ent} : (x.upd nm n tp ra wt v).name = x.name := by unfold Ent.upd; split <;> rfl
/-- the entry of a request gets a value that waits; the entries are a new dict -/
def BSt.wait (S : BSt) (nm : Str) (n : Nat) (tp ra wt en : Addr) (v : V) : BSt := { S with en := en, es := S.es.map (Ent.upd nm n tp ra wt v) }
theorem ekv_upd {es : List Ent} {nm : Str} {n : Nat} {tp ra wt : Addr} {v : V} (h : ∃ e ∈ es, e.name = nm) : putK (ekv es) (.inr nm) (.ref tp) = ekv (es.map (Ent.upd nm n tp ra wt v)) := by
  unfold putK
  rw [valV_any, if_pos]
  · unfold ekv
    rw [List.map_map, List.map_map]
    refine List.map_congr_left fun e he => ?_
    show (if (Sum.inr e.name : Key) = Sum.inr nm then ((Sum.inr e.name : Key), V.ref tp) else (Sum.inr e.name, V.ref e.tup)) = (Sum.inr (Ent.upd nm n tp ra wt v e).name, V.ref (Ent.upd nm n tp ra wt v e).tup)
    unfold Ent.upd
    by_cases z : e.name = nm
    · rw [if_pos (by rw [z]), if_pos z]
    · rw [if_neg (fun q => z (Sum.inr.inj q)), if_neg z]
  · obtain ⟨e, he, hn⟩ := h
    rw [val_ekv, Option.isSome_map, List.find?_isSome]
    exact ⟨e, he, by simpa using hn⟩
/-- a record is made for a request, its entry the last -/
def BSt.asked (S : BSt) (r : Rec) (tp wt en : Addr) : BSt := { S with rs := S.rs ++ [r], en := en, es := (S.es.filter fun e => !decide (e.name = r.req)) ++ [⟨r.req, S.rs.length, tp, r.a, wt, []⟩] }
theorem get_app {α : Type} {l : List α} {x : α} : (l ++ [x])[l.length]? = some x := by simp
abbrev BSt.addE (S : BSt) (en : Addr) (e : Ent) : BSt := { S with en := en, es := S.es ++ [e] }
/-- the entries with one more at the end: a new dict -/
theorem BrkL.addE {K : PySem.W.Frag} {H : Hp} {b D tp wt : Addr} {l : Option Obj} {S : BSt} {r : Rec} {n : Nat} (B : BrkL K H b l S) (hD : H D = some (.dK (ekv (S.es ++ [⟨r.req, n, tp, r.a, wt, []⟩])))) (nD : D ≠ b) (dD : S.dd ≠ D) (hr : S.rs[n]? = some r) (hin : r.req ∈ S.ns)
    (htp : H tp = some (.tup [.ref r.a, .ref wt])) (hwt : H wt = some (.tup [])) (hno : ∀ e ∈ S.es, e.name ≠ r.req) :
    Brk K (upd H b ((S.addE D ⟨r.req, n, tp, r.a, wt, []⟩).o K)) b (S.addE D ⟨r.req, n, tp, r.a, wt, []⟩) := by
  refine B.setB (S' := S.addE D ⟨r.req, n, tp, r.a, wt, []⟩) (l' := none) rfl rfl rfl rfl hD nD (fun e he => ?_) ?_ (fun e he => ?_) dD
  · rcases List.mem_append.mp he with he | he
    · exact B.es e he
    · obtain rfl : e = _ := by simpa using he
      exact ⟨htp, hwt, r, hr, rfl, rfl⟩
  · show ((S.es ++ [(⟨r.req, n, tp, r.a, wt, []⟩ : Ent)]).map (fun e : Ent => e.name)).Nodup
    rw [List.map_append, List.nodup_append]
    refine ⟨B.ee, by simp, fun x hx y hy => ?_⟩
    obtain ⟨e, he, rfl⟩ := List.mem_map.mp hx
    have : y = r.req := by simpa using hy
    rw [this]
    exact hno e he
  · rcases List.mem_append.mp he with he | he
    · exact B.en e he
    · obtain rfl : e = _ := by simpa using he
      exact hin
theorem dkv_put {ds : List Dsk} {d : Dsk} (h : ∀ x ∈ ds, x.name ≠ d.name) : putK (dkv ds) (.inr d.name) (.ref d.a) = dkv (ds ++ [d]) := by
  unfold putK
  rw [valV_any, val_dkv, List.find?_eq_none.mpr (fun x hx => by simpa using h x hx)]
  simp [dkv]
/-- desks that are made one by one -/
structure Dks (K : PySem.W.Frag) (lt ns : List Str) (H1 : Hp) (D : Addr) (i : Nat) (ds : List Dsk) (H : Hp) : Prop where
  nm : ds.map (·.name) = ns.take i
  each : ∀ d ∈ ds, (d.late = decide (d.name ∈ lt) ∧ d.src = .non ∧ d.hand = false) ∧ H1 d.a = none ∧ H d.a = some (d.o K)
  nd : (ds.map (·.a)).Nodup
  pcl : Pcl H1 D (dkv ds) H
theorem Dks.ne {K : PySem.W.Frag} {lt ns : List Str} {H1 H : Hp} {D : Addr} {i : Nat} {ds : List Dsk} (P : Dks K lt ns H1 D i ds H) : ∀ d ∈ ds, d.a ≠ D := fun d hd z => by
  have h1 := (P.each d hd).2.2
  rw [z, P.pcl.at_] at h1
  cases h1
theorem Dks.add {K : PySem.W.Frag} {lt ns : List Str} {H1 H : Hp} {D y dy : Addr} {i : Nat} {ds : List Dsk} {n : Str} {l : Bool} (P : Dks K lt ns H1 D i ds H) (hn : ns[i]? = some n) (hnd : ns.Nodup) (hl : l = decide (n ∈ lt)) (hy : H y = none) (hdy : H dy = none) (ne : dy ≠ y) :
    Dks K lt ns H1 D (i + 1) (ds ++ [⟨y, dy, n, l, .non, false⟩]) (upd (upd (upd H dy (.own y)) y (Dsk.o K ⟨y, dy, n, l, .non, false⟩)) D (.dK (putK (dkv ds) (.inr n) (.ref y)))) := by
  have hyD : y ≠ D := fun z => by rw [z, P.pcl.at_] at hy; cases hy
  have hno : ∀ x ∈ ds, x.name ≠ n := fun x hx z => by
    have h1 : x.name ∈ ns.take i := by rw [← P.nm]; exact List.mem_map.mpr ⟨x, hx, rfl⟩
    obtain ⟨j, hm, hj⟩ := List.mem_take_iff_getElem.mp h1
    have e1 : ns[j]? = some n := by rw [List.getElem?_eq_getElem (by omega), hj, z]
    have := (List.getElem?_inj (by omega) hnd).mp (e1.trans hn.symm)
    omega
  have hnew : ∀ d ∈ ds, d.a ≠ y ∧ d.a ≠ dy := fun d hd => ⟨ne_of_none (P.each d hd).2.2 hy, ne_of_none (P.each d hd).2.2 hdy⟩
  refine ⟨?_, fun d hd => ?_, ?_, ?_⟩
  · rw [List.map_append, P.nm, List.take_succ, hn]; rfl
  · rcases List.mem_append.mp hd with hd | hd
    · obtain ⟨h1, h2, h3⟩ := P.each d hd
      exact ⟨h1, h2, by rw [upd_ne (P.ne d hd), upd_ne (hnew d hd).1, upd_ne (hnew d hd).2]; exact h3⟩
    · obtain rfl : d = _ := by simpa using hd
      refine ⟨⟨hl, rfl, rfl⟩, ?_, by rw [upd_ne hyD, upd_same]⟩
      cases q : H1 y with
      | none => rfl
      | some o => exact absurd hy (P.pcl.live y (by rw [q]; simp))
  · rw [List.map_append, List.nodup_append]
    refine ⟨P.nd, by simp, fun x hx z hz => ?_⟩
    obtain ⟨d, hd, rfl⟩ := List.mem_map.mp hx
    have : z = y := by simpa using hz
    rw [this]
    exact (hnew d hd).1
  · have := dkv_put (ds := ds) (d := ⟨y, dy, n, l, .non, false⟩) hno
    rw [← this]
    have hy2 : (upd H dy (.own y)) y = none := by rw [upd_ne ne.symm]; exact hy
    exact ((P.pcl.new hdy).new hy2).put
end NL
/-! The end for a law with repr whose defs make functions: several tables, empty at first. -/
namespace NL
open PySem PySem.Spec PyProof.Rows L2 LamX
/-- what is known where the law is called: the script's list at a, the empty tables -/
structure SttL (K : PySem.W.Frag) (h : Heap) (a : Addr) (cs : List (Addr × Addr)) (vs : List Value) : Prop where
  sc : h.get? a = some { cls := .type "list", data := .seq vs.toArray }
  tb : ∀ p ∈ cs, h.get? p.2 = some { cls := .none, data := .fields #[] }
  nk : ∀ p ∈ cs, K.lookup p.2 = none
  cd : ∀ p ∈ cs, PySem.W.CodeHd h p.1 p.2
abbrev tbs (cs : List (Addr × Addr)) : List Addr := cs.map (·.2)
theorem tbs_mem {cs : List (Addr × Addr)} {p : Addr × Addr} (h : p ∈ cs) : p.2 ∈ tbs cs := List.mem_map.mpr ⟨p, h, rfl⟩
theorem SttL.at_ {K : PySem.W.Frag} {h : Heap} {a : Addr} {cs : List (Addr × Addr)} {vs : List Value} (S : SttL K h a cs vs) {b : Addr} (hb : b ∈ tbs cs) : h.get? b = some { cls := .none, data := .fields #[] } := by
  obtain ⟨p, hp, rfl⟩ := List.mem_map.mp hb
  exact S.tb p hp
theorem SttL.nk' {K : PySem.W.Frag} {h : Heap} {a : Addr} {cs : List (Addr × Addr)} {vs : List Value} (S : SttL K h a cs vs) {b : Addr} (hb : b ∈ tbs cs) : K.lookup b = none := by
  obtain ⟨p, hp, rfl⟩ := List.mem_map.mp hb
  exact S.nk p hp
theorem SttL.ne {K : PySem.W.Frag} {h : Heap} {a : Addr} {cs : List (Addr × Addr)} {vs : List Value} (S : SttL K h a cs vs) : a ∉ tbs cs := fun z => by
  have e := S.sc
  rw [S.at_ z] at e
  have e2 : Data.fields #[] = Data.seq vs.toArray _ := congrArg Obj.data (Option.some.inj e)
  cases e2
/-- at most the script and the tables are tracked -/
structure TrkL (H : Hp) (a : Addr) (cs : List (Addr × Addr)) : Prop where
  tb : ∀ b ∈ tbs cs, H b = some (.tbl #[])
  at_ : ∀ b, H b = none ∨ b ∈ tbs cs ∨ (b = a ∧ ∃ o xs, H b = some (.frz o (.lst xs)))
section
variable {P : Program} {w : World} {K : PySem.W.Frag} {mg mb : Str → Option Value} {h : Heap} {a c t : Addr} {cs : List (Addr × Addr)} {vs : List Value} {H : Hp}
theorem TrkL.free (T : TrkL H a cs) (S : SttL K h a cs vs) {b : Addr} {o : Obj} (e : h.get? b = some o) (h1 : ∀ xs n, o.data ≠ .seq xs n) (h2 : o.data ≠ .fields #[]) : H b = none := by
  rcases T.at_ b with z | z | ⟨rfl, _⟩
  · exact z
  · rw [S.at_ z] at e; cases e; exact absurd rfl h2
  · rw [S.sc] at e; cases e; exact absurd rfl (h1 _ _)
theorem TrkL.base (T : TrkL H a cs) (S : SttL K h a cs vs) {b : Addr} {o : Obj} (e : h.get? b = some o) (h1 : ∀ xs n, o.data ≠ .seq xs n) (h2 : o.data ≠ .fields #[]) : (hidT h H).get? b = some o := hidT_get e (T.free S e h1 h2)
theorem TrkL.ns (T : TrkL H a cs) (S : SttL K h a cs vs) {b : Addr} {m : Str → Option Value} (n : h.Ns b m) : (hidT h H).Ns b m := by
  obtain ⟨o, es, ep, e, d, r⟩ := n
  refine ⟨o, es, ep, T.base S e (fun xs n z => ?_) (fun z => ?_), d, r⟩
  · rw [d] at z; cases z
  · rw [d] at z; cases z
theorem TrkL.kin (T : TrkL H a cs) (S : SttL K h a cs vs) (X : K.In h) (n : H a ≠ none → K.lookup a = none) : K.In (hidT h H) := fun b o e => hidT_get (X b o e) (by
  rcases T.at_ b with z | z | ⟨rfl, o', xs, z⟩
  · exact z
  · rw [S.nk' z] at e; cases e
  · rw [n (by rw [z]; exact fun z => nomatch z)] at e; cases e)
theorem TrkL.tab (T : TrkL H a cs) (S : SttL K h a cs vs) (hns : h.Ns mainGlobals mg)
    (hbm : ∃ (bm : Addr) (ob : Obj), mg "__builtins__" = some (.ref bm) ∧ bm ≠ builtinsNs ∧ h.get? bm = some ob ∧ ob.cls = .type "module" ∧ ob.dict = some builtinsNs ∧ ob.data = .plain) : ∀ p ∈ cs, TabB (hidT h H) mg p.1 p.2 := fun p hp => by
  have hg := hns
  have tp := S.tb p hp
  obtain ⟨og, es, ep, eg, dg, _⟩ := hg
  refine ⟨?_, ?_, fun z => ?_⟩
  · obtain ⟨o, us, file, tf, flags, tg, inF, text, tt, e1, r1, r2, r3, r⟩ := S.cd p hp
    refine ⟨o, us, file, tf, flags, tg, inF, text, tt, T.base S e1 (fun xs n z => ?_) (fun z => ?_), r1, r2, r3, r⟩
    · rw [r2] at z; cases z
    · rw [r2] at z; cases z; simp at r3
  · obtain ⟨bm, ob, b1, b2, b3, b4, b5, b6⟩ := hbm
    refine ⟨bm, ob, b1, b2, fun q => ?_, fun q => ?_, T.base S b3 (fun xs n z => ?_) (fun z => ?_), b4, b5, b6⟩
    · rw [q, eg] at b3; cases b3; rw [dg] at b6; cases b6
    · rw [q, tp] at b3; cases b3; cases b6
    · rw [b6] at z; cases z
    · rw [b6] at z; cases z
  · rw [z, tp] at eg; cases eg; cases dg
end
theorem law_callGTs {P : Program} {w : World} {K : PySem.W.Frag} {mg mb : Str → Option Value} {CX : CXT} {k : Nat} {fa a : Addr} {cs : List (Addr × Addr)} {fd : FuncData} {x : Str} {sp : Sp} {s₁ : Shared} {vs : List Value} {ns : List Int}
    (KX : K.In s₁.heap) (hns : s₁.heap.Ns mainGlobals mg) (hb : s₁.heap.Ns builtinsNs mb) (hbb : ∀ x : Str, x ≠ "__name__" → mb x = bootBuiltins x) (hlim : s₁.heap.NoLimit) (hg : s₁.gens = #[]) (S : SttL K s₁.heap a cs vs)
    (hbm : ∃ (bm : Addr) (ob : Obj), mg "__builtins__" = some (.ref bm) ∧ bm ≠ builtinsNs ∧ s₁.heap.get? bm = some ob ∧ ob.cls = .type "module" ∧ ob.dict = some builtinsNs ∧ ob.data = .plain)
    (hi : IntsAre vs ns) (hl : ns.length ≤ sizeLine) (hr : Room k callerA)
    (F : ∀ base : Heap, K.In base → base.Ns mainGlobals mg → (∀ p ∈ cs, TabB base mg p.1 p.2) → FnOkG P w K mg base CX k fa fd [x] sp) (hbind : ∀ (s : Shared) (u : Value), BindsTo s fd ⟨[u], []⟩ [(x, u)])
    (hsp : ∀ H : Hp, (∀ p ∈ cs, H p.2 = some (.tbl #[])) → SqL K H a (ns.map V.int) → sp [.ref a] H (fun v _ => v = .bl true) fun _ _ _ => False)
    (hCX : ∀ H e s', CX [] H s₁ (fun _ _ _ => False) e s' → False) :
    codeAny (model P w) callerA (.call (.ref fa) ⟨[.ref a], []⟩) (fun r s' => r = .ok (.ret (.bool true)) ∧ OldK s₁.heap s'.heap ∧ s'.os = s₁.os ∧ AllBare s'.gens) s₁ := by
  have rv := vals_ints hi
  have lenV := hi.length
  have core : ∀ H : Hp, TrkL H a cs → SqL K H a (ns.map V.int) → HOk P w H s₁.heap → (H a ≠ none → K.lookup a = none) →
      codeAny (model P w) callerA (.call (.ref fa) ⟨[.ref a], []⟩) (fun r s' => r = .ok (.ret (.bool true)) ∧ OldK s₁.heap s'.heap ∧ s'.os = s₁.os ∧ AllBare s'.gens) s₁ := by
    intro H T hS hok hK
    have hKb := T.kin S KX hK
    have hM : L2.Mod K mg (hidT s₁.heap H) := ⟨hKb, T.ns S hns, ⟨mb, T.ns S hb, hbb⟩, let ⟨mc, h1, h2⟩ := hlim; ⟨mc, T.ns S h1, h2⟩⟩
    have e0 : Env0 P w K mg (hidT s₁.heap H) callerA [] s₁ H := ⟨rfl, hM, fun b o e => of_hidT e, Nat.le_of_eq (hidT_size _ _), trivial, fun b hb => absurd (show b ∈ ([] : List Addr) from hb) (by simp), hok, .of_eq hg⟩
    refine codeAny_mono ((F _ hKb (T.ns S hns) (T.tab S hns hbm)).run callerA [] s₁ H ⟨[.ref a], []⟩ [.ref a] [.ref a] _ _ rfl hr e0 (hbind s₁ (.ref a)) (.cons rfl .nil) (hsp H (fun p hp => T.tb _ (tbs_mem hp)) hS)) fun r s' q => ?_
    match r, q with
    | .error e, q => exact (hCX H e s' q).elim
    | .ok .next, q => exact False.elim q
    | .ok .brk, q => exact False.elim q
    | .ok .cont, q => exact False.elim q
    | .ok (.ret u), q =>
      obtain ⟨v, H', os, bare, un, hok', r', q⟩ := q
      have q' : v = .bl true := q
      subst q'
      obtain rfl : u = Value.bool true := r'
      have key : ∀ b o, b ∉ tbs cs → s₁.heap.get? b = some o → s'.heap.get? b = some o := fun b o nb e => by
        rcases T.at_ b with z | z | ⟨_, ob, xs, z⟩
        · exact un.keep b o e z (by intro z; exact absurd (show b ∈ ([] : List Addr) from z) (by simp)) (by simp)
        · exact absurd z nb
        · obtain ⟨e1, _⟩ := hok b _ z
          obtain ⟨e2, _⟩ := hok' b _ (un.frzs b ob _ z)
          rw [e] at e1; cases e1
          exact e2
      have grown : ∀ b ∈ tbs cs, ∃ more : Array Value, s'.heap.get? b = some { cls := .none, data := .fields (#[] ++ more) } := fun b hb => by
        obtain ⟨more, z⟩ := un.tbls b #[] (T.tb b hb)
        exact ⟨more, hok' b _ z⟩
      refine ⟨rfl, ⟨fun b o e => ?_, fun b o e => ?_⟩, os, bare⟩
      · by_cases hb : b ∈ tbs cs
        · obtain ⟨more, hm⟩ := grown b hb
          obtain ⟨p, hp, rfl⟩ := List.mem_map.mp hb
          rw [S.tb p hp] at e
          cases e
          exact .inr (.inl ⟨((S.cd p hp).tab (S.tb p hp)).isCodeTable, rfl, #[], more, rfl, hm⟩)
        · exact .inl (key b o hb e)
      · by_cases hb : b ∈ tbs cs
        · obtain ⟨more, hm⟩ := grown b hb
          exact ⟨_, hm⟩
        · exact ⟨o, key b o hb e⟩
  cases hk : K.lookup a with
  | some o =>
    have e := KX a o hk
    rw [S.sc] at e
    cases e
    have na : (if a ∈ tbs cs then some (HO.tbl #[]) else none) = none := if_neg S.ne
    refine core (fun b => if b ∈ tbs cs then some (.tbl #[]) else none) ⟨fun b hb => if_pos hb, fun b => ?_⟩ (.inr ⟨_, vs.toArray, _, hk, rfl, rfl, rfl, by rw [List.size_toArray, lenV]; exact hl, by simpa using rv⟩) (fun b u z => ?_) fun z => absurd na z
    · by_cases hb : b ∈ tbs cs
      · exact .inr (.inl hb)
      · exact .inl (if_neg hb)
    · by_cases hb : b ∈ tbs cs
      · have z' := (if_pos hb).symm.trans z
        cases z'
        exact S.at_ hb
      · have z' := (if_neg hb).symm.trans z
        cases z'
  | none =>
    refine core (fun b => if b ∈ tbs cs then some (.tbl #[]) else if b = a then some (.frz { cls := .type "list", data := .seq vs.toArray } (.lst (ns.map V.int))) else none) ⟨fun b hb => if_pos hb, fun b => ?_⟩
      (.inl (.inr ⟨{ cls := .type "list", data := .seq vs.toArray }, (if_neg S.ne).trans (if_pos rfl)⟩)) (fun b u z => ?_) fun _ => hk
    · by_cases hb : b ∈ tbs cs
      · exact .inr (.inl hb)
      · by_cases hb2 : b = a
        · exact .inr (.inr ⟨hb2, _, _, (if_neg hb).trans (if_pos hb2)⟩)
        · exact .inl ((if_neg hb).trans (if_neg hb2))
    · by_cases hb : b ∈ tbs cs
      · have z' := (if_pos hb).symm.trans z
        cases z'
        exact S.at_ hb
      · have z1 := (if_neg hb).symm.trans z
        by_cases hb2 : b = a
        · have z' := (if_pos hb2).symm.trans z1
          cases z'
          rw [hb2]
          exact ⟨S.sc, by rw [List.length_map]; exact hl, vs, _, rv, S.sc⟩
        · have z' := (if_neg hb2).symm.trans z1
          cases z'
theorem walkGTs {l : PySem.W.OpenLaw} {n k : Nat} {q : Program} {loose : List Str} {XP : (Str → Option Value) → Heap → Prop} {YP : World → Heap → Prop} {d : DefRec} {CX : World → CXT} {x : Str}
    (hn : l.most = some n) (hn2 : n ≤ sizeLine) (hdf : d.params.defaults = []) (hr : Room k callerA)
    (F : ∀ (w : World) (mg : Str → Option Value) (fa : Addr) (h : Heap), YP w h → h.Ns mainGlobals mg → mg d.name = some (.ref fa) → ∃ K : PySem.W.Frag, K.In h ∧ ∃ (fd : FuncData) (sp : Sp) (cs : List (Addr × Addr)), (∀ p ∈ cs, h.get? p.2 = some { cls := .none, data := .fields #[] }) ∧ (∀ p ∈ cs, K.lookup p.2 = none) ∧ (∀ p ∈ cs, PySem.W.CodeHd h p.1 p.2) ∧
      (∀ (s : Shared) (u : Value), BindsTo s fd ⟨[u], []⟩ [(x, u)]) ∧
      (∀ (H : Hp) (a : Addr) (ns : List Int), ns.length ≤ n → (∀ p ∈ cs, H p.2 = some (.tbl #[])) → SqL K H a (ns.map V.int) → sp [.ref a] H (fun v _ => v = .bl true) fun _ _ _ => False) ∧
      ∀ base : Heap, K.In base → base.Ns mainGlobals mg → (∀ p ∈ cs, TabB base mg p.1 p.2) → FnOkG l.prog w K mg base (CX w) k fa fd [x] sp)
    (hCX : ∀ (w : World) (H : Hp) (s : Shared) (e : Value) (s' : Shared), CX w [] H s (fun _ _ _ => False) e s' → False) :
    PySem.W.WalkO q loose XP YP l.row.toRowW d [] (fun f vs => PySem.call f vs) := by
  refine Att.attach_callB hn hdf fun w s₀ s₁ mg mb fa o pm cd doc a vs ns G Y ho hd hcd hmg hobj hints hlen hbits hg => ?_
  obtain ⟨K, KX, fd, sp, cs, h1, h2, h3, hb, hsp, hF⟩ := F w mg fa _ Y G.T.g hmg
  exact law_callGTs KX G.T.g G.T.b G.T.builtins G.T.nolimit hg ⟨hobj, h1, h2, h3⟩ G.T.bmain hints (Nat.le_trans hlen hn2) hr hF hb (fun H ht hS => hsp H a ns hlen ht hS) fun H e s' => hCX w H s₁ e s'
/-! ### the head's look with tables: defs at any address, the tables empty -/
def obsW (as : List Addr) (fn : List He5.DefA) (ex : PySem.W.Frag → Bool) (tf : List He.Defn) (g : Addr → Option Obj) : He.AlD := obsN0 fn (fun K => ex K && He.tabsB g tf K) (He.frT g as)
structure SaysW (fn : List He5.DefA) (ex : PySem.W.Frag → Bool) (tf : List He.Defn) (h : Heap) (K : PySem.W.Frag) : Prop where
  t : SaysN fn ex K
  hd : ∀ p ∈ tf, PySem.W.codeHdIn K (He.cT K p).1 (He.cT K p).2 = true
  out : ∀ p ∈ tf, K.lookup (He.cT K p).2 = none
  empty : ∀ p ∈ tf, h.get? (He.cT K p).2 = some { cls := .none, data := .fields #[] }
theorem saysW_of {as : List Addr} {fn : List He5.DefA} {ex : PySem.W.Frag → Bool} {tf : List He.Defn} {h : Heap} (e : obsW as fn ex tf h.get? = He5.valA fn) : SaysW fn ex tf h (He.frT h.get? as) := by
  have q : ((ex (He.frT h.get? as) && He.tabsB h.get? tf (He.frT h.get? as)) && fn.all fun d => d.ok (He.frT h.get? as)) = true := congrArg (fun z : He.AlD => z.1) e
  have q2 : fn.map (fun d => He5.fnA (He.frT h.get? as) (d.at_ (He.frT h.get? as))) = fn.map He5.DefA.val := congrArg (fun z : He.AlD => z.2) e
  rw [Bool.and_eq_true, Bool.and_eq_true] at q
  obtain ⟨⟨h1, h2⟩, h3⟩ := q
  have key : ∀ p ∈ tf, PySem.W.codeHdIn (He.frT h.get? as) (He.cT (He.frT h.get? as) p).1 (He.cT (He.frT h.get? as) p).2 = true ∧ ∃ o, h.get? (He.cT (He.frT h.get? as) p).2 = some o ∧ He.emptyTab o = true := fun p hp => by
    have z := List.all_eq_true.mp h2 p hp
    rw [Bool.and_eq_true] at z
    obtain ⟨h3, h4⟩ := z
    refine ⟨h3, ?_⟩
    cases q : h.get? (He.cT (He.frT h.get? as) p).2 with
    | none => rw [q] at h4; cases h4
    | some o => rw [q] at h4; exact ⟨o, rfl, h4⟩
  refine ⟨?_, fun p hp => (key p hp).1, fun p hp => ?_, fun p hp => ?_⟩
  · show ((ex (He.frT h.get? as) && fn.all fun d => d.ok (He.frT h.get? as)), fn.map fun d => He5.fnA (He.frT h.get? as) (d.at_ (He.frT h.get? as))) = (true, fn.map He5.DefA.val)
    rw [h1, h3, q2]; rfl
  · obtain ⟨_, o, q, z⟩ := key p hp
    exact He.frT_none q z
  · obtain ⟨_, o, q, z⟩ := key p hp
    rw [q, He.emptyTab_eq z]
def hookW (as : List Addr) (fn : List He5.DefA) (ex : PySem.W.Frag → Bool) (tf : List He.Defn) : PySem.W.Hook where
  α := He.AlD
  obs := fun s => obsW as fn ex tf s.heap.get?
  val := fun _ => He5.valA fn
  says := fun _ h => ∃ K : PySem.W.Frag, K.In h ∧ SaysW fn ex tf h K
  of := fun _ _ e => ⟨_, He.frT_in, saysW_of e⟩
  keeps := fun _ _ _ ⟨K, hK, c⟩ k => ⟨K, PySem.W.Frag.In.keeps hK k, ⟨c.t, c.hd, c.out, fun p hp => k _ _ (c.empty p hp)⟩⟩
theorem obsW_eq {as : List Addr} {fn : List He5.DefA} {ex : PySem.W.Frag → Bool} {tf : List He.Defn} {g : Addr → Option Obj} {s : Shared} (h : ∀ a, g a = s.heap.get? a) : obsW as fn ex tf g = (hookW as fn ex tf).obs s := by
  have e : g = s.heap.get? := funext h
  rw [e] <;> rfl
/-! ### a property -/
def propB (K : PySem.W.Frag) (C : Addr) (m : Str) : Bool := He.eqO (PySem.W.findIn K (.ref C) m) (some (some (.ref (He.ma K C m)))) && (He.eqO (PySem.W.specialIn K (.ref (He.ma K C m)) "__get__") (some (some (.builtin "property.__get__"))) && (decide (PySem.W.takesIn K (.ref (He.ma K C m)) = some true) && (match PySem.W.recIn K (He.ma K C m) "property" with
  | some (.ref _ :: _) => true
  | _ => false)))
theorem prop_of {K : PySem.W.Frag} {C : Addr} {m : Str} (h : propB K C m = true) : L2.PropOf K C m (He.ma K C m) (He5.wf K C "property" m) := by
  unfold propB at h
  rw [Bool.and_eq_true, Bool.and_eq_true, Bool.and_eq_true] at h
  obtain ⟨h1, h2, h3, h4⟩ := h
  refine ⟨He.eqO_ok h1, He.eqO_ok h2, of_decide_eq_true h3, ?_⟩
  unfold He5.wf
  split at h4
  · rename_i f r e
    exact ⟨r, by rw [e]⟩
  · cases h4
/-- the tables are different ones -/
def tneB (tf : List He.Defn) (K : PySem.W.Frag) : Bool := decide ((tf.map fun p => (He.cT K p).2).Nodup)
end NL
namespace NL
open PySem L2
local macro_rules | `(tactic| walk_at "wipe") => `(tactic| (simp only [wipe_cons, wipe_nil, List.map_cons, List.map_nil, List.set_cons_succ, List.set_cons_zero]; rfl))
local macro_rules | `(tactic| walk_at "mem") => `(tactic| first | assumption | exact List.mem_cons_self .. | (apply List.mem_cons_of_mem; walk_at "mem"))
local macro_rules | `(tactic| walk_at "sub") => `(tactic| first | exact no0 | exact subr | (refine sub1 ?_; walk_at "mem") | (refine subc ?_; walk_at "sub"))
local macro_rules | `(tactic| walk_at "df") => `(tactic| first
  | assumption | exact Df.int _ | exact Df.str _ | exact Df.non | exact Df.bl _
  | exact Bld.done (by assumption)
  | exact Dk.df (by assumption)
  | ((refine' Df.ed (by assumption) ?s ?h); (case s => walk_at "sub"); (case h => walk_at "df"))
  | ((refine' Df.via (by assumption) (by assumption) ?e ?h); (case e => walk_at "ed"); (case h => walk_at "df"))
  | ((refine' Df.more (by assumption) ?h); (case h => walk_at "df"))
  | ((refine' Df.weak ?s ?h); (case h => assumption); (case s => walk_at "sub")))
local macro_rules | `(tactic| walk_at "dfs") => `(tactic| first
  | assumption | exact DfAll.nil | ((refine' DfAll.cons ?a ?b); (case a => walk_at "df"); (case b => walk_at "dfs"))
  | exact DfAll.strs _ | exact DfAll.ints _)
local macro_rules | `(tactic| walk_at "dk") => `(tactic| first
  | assumption
  | ((refine' Dk.ed ?h (by assumption) ?s); (case s => walk_at "sub"); (case h => walk_at "dk"))
  | ((refine' Dk.via (by assumption) (by assumption) ?e ?h); (case e => walk_at "ed"); (case h => walk_at "dk"))
  | ((refine' Dk.more (by assumption) ?h); (case h => walk_at "dk")))
local macro_rules | `(tactic| walk_at "alive") => `(tactic| first | assumption | exact Bag.alive (by assumption) | exact Bld.alive (by assumption) | exact Df.alive (by assumption) | exact Dk.alive (by assumption))
local macro_rules | `(tactic| walk_at "wl") => `(tactic| first
  | assumption | exact Wl.nil
  | ((refine Wl.cons' ?a ?r); (case a => walk_at "alive"); (case r => walk_at "wl"))
  | ((refine Wl.ed ?r (by assumption)); (case r => walk_at "wl"))
  | exact Wl.tail (by assumption))
local macro_rules | `(tactic| walk_at "al") => `(tactic| first | exact Al.refl | ((refine' Al.of (by assumption) ?h); (case h => walk_at "al")))
local macro_rules | `(tactic| walk_at "fr") => `(tactic| first | assumption | ((refine' Al.free ?e (by assumption)); (case e => walk_at "al")))
local macro_rules | `(tactic| walk_at "edv") => `(tactic| first | exact no0 | ((refine edvl ?s); (case s => walk_at "sub")) | ((refine edv1 (Or.inr ?f)); (case f => walk_at "fr")))
local macro_rules | `(tactic| walk_at "ed") => `(tactic| first
  | assumption | exact Ed.refl
  | ((refine Ed.tr ?x (by assumption) ?v); (case x => walk_at "ed"); (case v => walk_at "edv")))
local macro_rules | `(tactic| walk_at "nb") => `(tactic| first | exact List.not_mem_nil | assumption | exact nb_bld (by assumption) (by walk_at "mem"))
local macro_rules | `(tactic| walk_at "bag") => `(tactic| first
  | assumption
  | ((refine' Bag.ed ?h (by assumption) ?n); (case n => walk_at "nb"); (case h => walk_at "bag"))
  | ((refine' Bag.via (by assumption) (by assumption) ?e ?h); (case e => walk_at "ed"); (case h => walk_at "bag")))
local macro_rules | `(tactic| walk_at "bld") => `(tactic| first
  | assumption
  | ((refine' Bld.ed ?h (by assumption) ?s); (case s => walk_at "sub"); (case h => walk_at "bld"))
  | ((refine' Bld.via (by assumption) (by assumption) ?e ?h); (case e => walk_at "ed"); (case h => walk_at "bld")))
local macro_rules | `(tactic| walk_at "num") => `(tactic| first | omega | assumption)
local macro_rules | `(tactic| walk_at "ne") => `(tactic| first
  | assumption
  | (apply Ne.symm; assumption)
  | (refine' ne_of_none ?n1 (by assumption); (case n1 => walk_at "hp"))
  | (refine' Ne.symm (ne_of_none ?n1 (by assumption)); (case n1 => walk_at "hp")))
local macro_rules | `(tactic| walk_at "hp") => `(tactic| first
  | assumption
  | with_reducible exact upd_same
  | ((with_reducible refine Eq.trans (upd_ne ?n1) ?n2); (case n1 => walk_at "ne"); (case n2 => walk_at "hp"))
  | ((with_reducible refine hp_same (by assumption) ?n2); (case n2 => walk_at "hp"))
  | ((with_reducible refine hp_sx (by assumption) ?n1 ?n2); (case n1 => simp only [List.mem_cons, List.not_mem_nil, or_false]; walk_at "ne"); (case n2 => walk_at "hp")))
local macro_rules | `(tactic| walk_at "sq") => `(tactic| first
  | assumption
  | ((refine' Or.inl ?n1); (case n1 => walk_at "sql"))
  | ((refine' Or.inr ?n1); (case n1 => walk_at "sqt")))
local macro_rules | `(tactic| walk_at "sql") => `(tactic| first
  | assumption
  | ((refine' SqL.of ?n1); (case n1 => walk_at "hp"))
  | (refine sqL_same (by assumption) ?n1; (case n1 => walk_at "same")))
local macro_rules | `(tactic| walk_at "same") => `(tactic| first
  | assumption
  | exact Same.refl _
  | (refine L2.Same.new ?n1 (by assumption); (case n1 => walk_at "same"))
  | (refine L2.Same.mut ?n1 ?n2; (case n2 => first | assumption | exact Same.free (by assumption) (by assumption)); (case n1 => walk_at "same")))
local macro_rules | `(tactic| walk_at "sqt") => `(tactic| first
  | assumption
  | ((refine' SqT.of ?n1); (case n1 => walk_at "hp")))
local macro_rules | `(tactic| walk_at "size") => `(tactic| (rw [sizeLine_eq] <;> first | omega | (simp; omega)))
local macro_rules | `(tactic| walk_at "flat") => `(tactic| first | assumption | exact flat_strs _ | exact flat_ints _ | rfl | simp [flatV])
local macro_rules | `(tactic| walk_at "go1") => `(tactic| first
  | with_reducible refine g_seq ?_
  | with_reducible refine g_asg ?_
  | ((with_reducible refine' g_nameE ?z ?_); (case z => (simp only [List.set_cons_succ, List.set_cons_zero]; rfl)))
  | with_reducible refine g_name ?_
  | with_reducible refine g_op ?_
  | ((with_reducible refine' g_var ?z ?_); (case z => exact rfl))
  | with_reducible refine g_c ?_
  | with_reducible refine g_cb ?_
  | with_reducible refine g_cons ?_
  | with_reducible refine g_nil ?_
  | with_reducible refine g_ifS ?_
  | with_reducible refine g_test ?_
  | with_reducible refine g_tb ?_
  | with_reducible refine g_bl ?_
  | with_reducible refine g_not ?_
  | with_reducible refine g_and ?_
  | with_reducible refine g_or ?_
  | with_reducible refine g_ret ?_
  | with_reducible refine g_retN ?_
  | with_reducible refine g_drop ?_
  | with_reducible refine g_ifE ?_
  | with_reducible refine g_callS ?_
  | with_reducible refine g_sub ?_
  | with_reducible refine g_un ?_
  | with_reducible refine g_next ?_
  | with_reducible refine g_cmp_i ?_
  | with_reducible refine g_add_i ?_
  | with_reducible refine g_sub_i ?_
  | with_reducible refine g_int_i ?_
  | with_reducible refine g_eq_i ?_
  | with_reducible refine g_eq_s ?_
  | with_reducible refine g_eq_b ?_
  | with_reducible refine g_ne_i ?_
  | with_reducible refine g_ne_s ?_
  | with_reducible refine g_ne_b ?_
  | with_reducible refine g_str_s ?_
  | with_reducible refine g_abs ?_
  | with_reducible refine g_max ?_
  | with_reducible refine g_min ?_
  | with_reducible refine g_isN ?_
  | with_reducible refine g_isNotN ?_
  | ((with_reducible refine g_mod_i ?z ?_); (case z => walk_at "num"))
  | ((with_reducible refine g_div_i ?z ?_); (case z => exact ⟨by walk_at "num", by first | assumption | decide⟩))
  | ((with_reducible refine g_mul_i ?z ?_); (case z => first | exact Or.inl (Or.inr ⟨by omega, by omega⟩) | exact Or.inl (Or.inl ⟨by omega, by omega⟩) | assumption))
  | ((with_reducible refine' g_ix_l ?z1 ?z2 ?_); (case z1 => walk_at "sq"); (case z2 => first | rfl | assumption))
  | ((with_reducible refine' g_setL ?z1 ?z2 ?_); (case z1 => walk_at "hp"); (case z2 => first | rfl | assumption))
  | ((with_reducible refine' g_len_l ?z1 ?_); (case z1 => walk_at "sq"))
  | ((with_reducible refine' g_augE ?z ?_); (case z => exact rfl))
  | with_reducible refine g_for ?_
  | with_reducible refine g_lc ?_
  | with_reducible refine g_iL ?_
  | with_reducible refine g_iT ?_
  | with_reducible refine g_iS ?_
  | with_reducible refine g_iS1 ?_
  | with_reducible refine g_iE ?_
  | with_reducible refine g_iR ?_
  | ((with_reducible refine' g_iL1 ?z1 ?_); (case z1 => walk_at "sql"))
  | ((with_reducible refine' g_iT1 ?z1 ?_); (case z1 => walk_at "sqt"))
  | ((with_reducible refine' g_iE1 ?z1 ?_); (case z1 => walk_at "sql"))
  | ((with_reducible refine g_iR1 ?z1 ?z2 ?_); (case z1 => walk_at "num"); (case z2 => walk_at "num"))
  | with_reducible refine g_yes ?_
  | with_reducible refine g_sl ?_
  | with_reducible refine g_noP ?_
  | with_reducible refine g_part ?_
  | ((with_reducible refine g_pow_i ?z ?_); (case z => exact ⟨by decide, by decide, by decide⟩))
  | ((with_reducible refine g_len_s ?z ?_); (case z => first | assumption | walk_at "size"))
  | with_reducible refine iteT ?_
  | with_reducible refine iteF ?_
  | with_reducible refine iteNT ?_
  | with_reducible refine iteNF ?_
  | with_reducible refine g_int1 ?_
  | ((with_reducible refine' g_slL ?z1 ?_); (case z1 => walk_at "sql"))
  | ((with_reducible refine' g_listL ?z1 ?_); (case z1 => walk_at "sq"))
  | ((with_reducible refine' g_inLs ?z1 ?_); (case z1 => walk_at "sq"))
  | ((with_reducible refine' g_ninLs ?z1 ?_); (case z1 => walk_at "sq"))
  | with_reducible refine g_ip ?_
  | with_reducible refine g_rU ?_
  | ((with_reducible refine' g_inL ?z1 ?z2 ?z3 ?_); (case z1 => walk_at "sq"); (case z2 => rfl); (case z3 => walk_at "flat"))
  | ((with_reducible refine' g_ninL ?z1 ?z2 ?z3 ?_); (case z1 => walk_at "sq"); (case z2 => rfl); (case z3 => walk_at "flat"))
  | with_reducible refine g_inS ?_
  | with_reducible refine g_ninS ?_
  | with_reducible refine g_bm ?_
  | with_reducible refine g_bm0 ?_
  | ((with_reducible refine' g_tyL ?z1 ?_); (case z1 => walk_at "sql"))
  | with_reducible refine g_tyS ?_
  | ((with_reducible refine' g_tyB ?z1 ?_); (case z1 => assumption))
  | ((with_reducible refine' g_tyD ?z1 ?_); (case z1 => assumption))
  | ((with_reducible refine' g_app ?z1 ?z2 ?_); (case z1 => walk_at "hp"); (case z2 => walk_at "size"))
  | ((with_reducible refine' g_join ?z1 ?z2 ?_); (case z1 => walk_at "sq"); (case z2 => walk_at "size"))
  | ((with_reducible refine g_words ?z ?_); (case z => walk_at "size"))
  | ((with_reducible refine g_split ?z1 ?z ?_); (case z1 => rfl); (case z => walk_at "size"))
  | with_reducible refine g_lst ?_
  | with_reducible refine g_tup ?_
  | with_reducible refine tru_b ?_
  | with_reducible refine tru_n ?_
  | with_reducible refine tru_i ?_
  | with_reducible refine g_andT ?_
  | with_reducible refine g_orT ?_
  | with_reducible refine g_notT ?_
  | with_reducible refine g_raise ?_
  | with_reducible refine g_raised ?_
  | with_reducible refine g_make ?_
  | with_reducible refine g_meth ?_
  | with_reducible refine g_fld ?_
  | with_reducible refine g_sfld ?_
  | ((with_reducible refine' g_gf ?z1 ?z2 ?z3 ?z4 ?_); (case z1 => walk_at "hp"); (case z2 => assumption); (case z3 => assumption); (case z4 => rfl))
  | ((with_reducible refine' g_sf ?z1 ?z2 ?z3 ?z4 ?_); (case z1 => walk_at "hp"); (case z2 => assumption); (case z3 => assumption); (case z4 => exact Nat.lt_of_lt_of_le (Nat.lt_succ_self _) (Nat.le_of_ble_eq_true rfl)))
  | ((with_reducible refine' g_gtup ?z1 ?z2 ?_); (case z1 => walk_at "sqt"); (case z2 => rfl))
  | with_reducible refine g_gcons ?_
  | with_reducible refine g_gnil ?_
  | with_reducible refine g_callO ?_
  | ((with_reducible refine' g_co ?z1 ?_); (case z1 => walk_at "hp"))
  | ((with_reducible refine' g_ci ?z1 ?_); (case z1 => walk_at "hp"))
  | with_reducible refine g_dget ?_
  | ((with_reducible refine' g_dgs ?z1 ?z2 ?_); (case z1 => walk_at "hp"); (case z2 => first | assumption | rfl))
  | with_reducible refine g_dput ?_
  | ((with_reducible refine' g_dps ?z1 ?z2 ?_); (case z1 => walk_at "hp"); (case z2 => walk_at "size"))
  | with_reducible refine g_match ?_
  | with_reducible refine g_matched ?_
  | with_reducible refine g_mcs ?_
  | with_reducible refine g_mcg ?_
  | with_reducible refine g_many ?_
  | with_reducible refine g_mnil ?_
  | with_reducible refine g_afld ?_
  | with_reducible refine g_rAdd ?_
  | with_reducible refine g_rSub ?_
  | ((with_reducible refine' g_gfa ?z1 ?z2 ?z3 ?z4 ?_); (case z1 => walk_at "hp"); (case z2 => assumption); (case z3 => assumption); (case z4 => rfl))
  | ((with_reducible refine' g_af ?z1 ?z2 ?_); (case z1 => walk_at "hp"); (case z2 => exact Nat.lt_of_lt_of_le (Nat.lt_succ_self _) (Nat.le_of_ble_eq_true rfl)))
  | ((with_reducible refine' g_mt ?z1 ?z2 ?_); (case z1 => walk_at "hp"); (case z2 => rfl))
  | with_reducible refine g_ite_refl ?_
  | with_reducible refine g_iZ ?_
  | with_reducible refine g_din ?_
  | with_reducible refine g_par ?_
  | with_reducible refine g_par2 ?_
  | ((with_reducible refine' g_iTd ?z1 ?_); (case z1 => assumption))
  | with_reducible refine g_dget2 ?_
  | ((with_reducible refine' g_isd ?z1 ?_); (case z1 => assumption))
  | with_reducible refine g_dnin ?_
  | with_reducible refine g_disp ?_
  | with_reducible refine g_pr ?_
  | with_reducible refine g_pr0 ?_
  | ((with_reducible refine' g_iLd ?z1 ?_); (case z1 => assumption))
  | ((with_reducible refine' g_iEd ?z1 ?_); (case z1 => assumption))
  | ((with_reducible refine' g_iZd ?z1 ?z2 ?_); (case z1 => assumption); (case z2 => assumption))
  | ((with_reducible refine' g_lend ?z1 ?_); (case z1 => assumption))
  | ((with_reducible refine' g_inds ?z1 ?_); (case z1 => assumption))
  | ((with_reducible refine' g_ninds ?z1 ?_); (case z1 => assumption))
  | ((with_reducible refine' g_dgd ?z1 ?z2 ?_); (case z1 => assumption); (case z2 => first | assumption | rfl))
  | with_reducible refine g_par3 ?_
  | with_reducible refine g_par33 ?_
  | with_reducible refine g_cm ?_
  | with_reducible refine g_star ?_
  | ((with_reducible refine' g_makeL ?z1 ?_); (case z1 => exact rfl))
  | with_reducible refine g_brk ?_
  | with_reducible refine g_cont ?_)
local macro_rules | `(tactic| walk_at "go") => `(tactic| repeat walk_at "go1")
-- EV
local macro_rules | `(tactic| walk_at "fin") => `(tactic| first | exact NQ.fin0 | exact NQ.fin_o (by walk_at "fin") rfl | exact NQ.fin_f (by walk_at "fin") rfl)
local macro_rules | `(tactic| walk_at "evo") => `(tactic| first
  | ((with_reducible refine' NQ.wo_ix_l ?z1 ?_); (case z1 => first | exact NQ.atI0 | exact NQ.atI1 | exact NQ.atI2 | exact NQ.atI3 | exact NQ.atI4 | assumption))
  | ((with_reducible refine' NQ.wo_ix_t ?z1 ?_); (case z1 => first | exact NQ.atI0 | exact NQ.atI1 | exact NQ.atI2 | exact NQ.atI3 | exact NQ.atI4 | assumption))
  | ((with_reducible refine' NQ.wo_fld ?z1 ?_); (case z1 => exact rfl))
  | ((with_reducible refine' NQ.wo_eq ?z1 ?_); (case z1 => first | assumption | exact NQ.eqB_ii | exact NQ.eqB_ss | exact NQ.eqB_bb | exact NQ.eqB_pl 9 (by first | rfl | assumption) (by first | rfl | assumption)))
  | ((with_reducible refine' NQ.wo_ne ?z1 ?_); (case z1 => first | assumption | exact NQ.eqB_ii | exact NQ.eqB_ss | exact NQ.eqB_bb | exact NQ.eqB_pl 9 (by first | rfl | assumption) (by first | rfl | assumption)))
  | with_reducible refine NQ.wo_addi ?_
  | with_reducible refine NQ.wo_len_l ?_
  | ((with_reducible refine' NQ.wo_ix_dt ?z1 ?z2 ?_); (case z1 => first | exact rfl | assumption); (case z2 => assumption))
  | with_reducible refine NQ.wo_addAi ?_
  | with_reducible refine NQ.wo_addI ?_
  | with_reducible refine NQ.wo_subI ?_
  | with_reducible refine NQ.wo_subi ?_
  | with_reducible refine NQ.wo_cmp ?_
  | with_reducible refine NQ.wo_neg ?_
  | with_reducible refine NQ.wo_isN ?_
  | with_reducible refine NQ.wo_notN ?_
  | with_reducible refine NQ.wo_len_t ?_
  | with_reducible refine NQ.wo_len_c ?_
  | with_reducible refine NQ.wo_int_i ?_
  | with_reducible refine NQ.wo_int_b ?_
  | with_reducible refine NQ.wo_str_s ?_
  | with_reducible refine NQ.wo_abs ?_
  | with_reducible refine NQ.wo_max ?_
  | with_reducible refine NQ.wo_min ?_
  | with_reducible refine NQ.wo_list_l ?_
  | with_reducible refine NQ.wo_list_t ?_
  | with_reducible refine NQ.wo_list_c ?_
  | with_reducible refine NQ.wo_tuple ?_
  | with_reducible refine NQ.wo_slL1 ?_
  | with_reducible refine NQ.wo_slL2 ?_
  | with_reducible refine NQ.wo_slL3 ?_
  | ((with_reducible refine' NQ.wo_adds ?z1 ?_); (case z1 => first | assumption | omega | (simp only [List.length_cons, List.length_nil, List.length_append, List.length_map, NQ.rg_len, List.length_range, Str.length_append] <;> omega) | decide +kernel))
  | ((with_reducible refine' NQ.wo_addAs ?z1 ?_); (case z1 => first | assumption | omega | (simp only [List.length_cons, List.length_nil, List.length_append, List.length_map, NQ.rg_len, List.length_range, Str.length_append] <;> omega) | decide +kernel))
  | ((with_reducible refine' NQ.wo_addL ?z1 ?_); (case z1 => first | assumption | omega | (simp only [List.length_cons, List.length_nil, List.length_append, List.length_map, NQ.rg_len, List.length_range, Str.length_append] <;> omega) | decide +kernel))
  | ((with_reducible refine' NQ.wo_addAl ?z1 ?_); (case z1 => first | assumption | omega | (simp only [List.length_cons, List.length_nil, List.length_append, List.length_map, NQ.rg_len, List.length_range, Str.length_append] <;> omega) | decide +kernel))
  | ((with_reducible refine' NQ.wo_addU ?z1 ?_); (case z1 => first | assumption | omega | (simp only [List.length_cons, List.length_nil, List.length_append, List.length_map, NQ.rg_len, List.length_range, Str.length_append] <;> omega) | decide +kernel))
  | ((with_reducible refine' NQ.wo_len_s ?z1 ?_); (case z1 => first | assumption | omega | (simp only [List.length_cons, List.length_nil, List.length_append, List.length_map, NQ.rg_len, List.length_range, Str.length_append] <;> omega) | decide +kernel))
  | ((with_reducible refine' NQ.wo_list_s ?z1 ?_); (case z1 => first | assumption | omega | (simp only [List.length_cons, List.length_nil, List.length_append, List.length_map, NQ.rg_len, List.length_range, Str.length_append] <;> omega) | decide +kernel))
  | ((with_reducible refine' NQ.wo_lst ?z1 ?_); (case z1 => first | assumption | omega | (simp only [List.length_cons, List.length_nil, List.length_append, List.length_map, NQ.rg_len, List.length_range, Str.length_append] <;> omega) | decide +kernel))
  | ((with_reducible refine' NQ.wo_tup ?z1 ?_); (case z1 => first | assumption | omega | (simp only [List.length_cons, List.length_nil, List.length_append, List.length_map, NQ.rg_len, List.length_range, Str.length_append] <;> omega) | decide +kernel))
  | ((with_reducible refine' NQ.wo_slS1 ?z1 ?_); (case z1 => first | assumption | omega | (simp only [List.length_cons, List.length_nil, List.length_append, List.length_map, NQ.rg_len, List.length_range, Str.length_append] <;> omega) | decide +kernel))
  | ((with_reducible refine' NQ.wo_slS2 ?z1 ?_); (case z1 => first | assumption | omega | (simp only [List.length_cons, List.length_nil, List.length_append, List.length_map, NQ.rg_len, List.length_range, Str.length_append] <;> omega) | decide +kernel))
  | ((with_reducible refine' NQ.wo_slS3 ?z1 ?_); (case z1 => first | assumption | omega | (simp only [List.length_cons, List.length_nil, List.length_append, List.length_map, NQ.rg_len, List.length_range, Str.length_append] <;> omega) | decide +kernel))
  | ((with_reducible refine' NQ.wo_words ?z1 ?_); (case z1 => first | assumption | omega | (simp only [List.length_cons, List.length_nil, List.length_append, List.length_map, NQ.rg_len, List.length_range, Str.length_append] <;> omega) | decide +kernel))
  | ((with_reducible refine' NQ.wo_strip ?z1 ?_); (case z1 => first | assumption | omega | (simp only [List.length_cons, List.length_nil, List.length_append, List.length_map, NQ.rg_len, List.length_range, Str.length_append] <;> omega) | decide +kernel))
  | ((with_reducible refine' NQ.wo_muliR ?z1 ?z2 ?_); (case z1 => first | omega | assumption | decide); (case z2 => first | omega | assumption | decide))
  | ((with_reducible refine' NQ.wo_muliL ?z1 ?z2 ?_); (case z1 => first | omega | assumption | decide); (case z2 => first | omega | assumption | decide))
  | ((with_reducible refine' NQ.wo_mulAR ?z1 ?z2 ?_); (case z1 => first | omega | assumption | decide); (case z2 => first | omega | assumption | decide))
  | ((with_reducible refine' NQ.wo_mulAL ?z1 ?z2 ?_); (case z1 => first | omega | assumption | decide); (case z2 => first | omega | assumption | decide))
  | ((with_reducible refine' NQ.wo_muls ?z1 ?_); (case z1 => (refine ⟨?_, ?_, ?_⟩ <;> first | omega | decide | (exact Nat.le_of_ble_eq_true rfl) | (simp only [List.length_cons, List.length_nil, List.length_append, List.length_map, NQ.rg_len, List.length_range, Str.length_append] <;> omega) | assumption)))
  | ((with_reducible refine' NQ.wo_mulL ?z1 ?_); (case z1 => (refine ⟨?_, ?_, ?_⟩ <;> first | omega | decide | (exact Nat.le_of_ble_eq_true rfl) | (simp only [List.length_cons, List.length_nil, List.length_append, List.length_map, NQ.rg_len, List.length_range, Str.length_append] <;> omega) | assumption)))
  | ((with_reducible refine' NQ.wo_mulAl ?z1 ?_); (case z1 => (refine ⟨?_, ?_, ?_⟩ <;> first | omega | decide | (exact Nat.le_of_ble_eq_true rfl) | (simp only [List.length_cons, List.length_nil, List.length_append, List.length_map, NQ.rg_len, List.length_range, Str.length_append] <;> omega) | assumption)))
  | ((with_reducible refine' NQ.wo_modi ?z1 ?_); (case z1 => first | omega | assumption | decide))
  | ((with_reducible refine' NQ.wo_divi ?z1 ?z2 ?_); (case z1 => first | omega | assumption | decide); (case z2 => first | omega | assumption | decide))
  | ((with_reducible refine' NQ.wo_powi ?z1 ?z2 ?z3 ?z4 ?_); (case z1 => first | omega | assumption | decide); (case z2 => first | omega | assumption | decide); (case z3 => first | omega | assumption | decide); (case z4 => first | omega | assumption | decide))
  | ((with_reducible refine' NQ.wo_in ?z1 ?_); (case z1 => first | assumption | exact NQ.memB_ch (by first | rfl | assumption) | exact NQ.memB_c (by first | rfl | assumption) | exact NQ.memB_l (by first | rfl | assumption) (by first | rfl | assumption) | exact NQ.memB_t (by first | rfl | assumption) (by first | rfl | assumption)))
  | ((with_reducible refine' NQ.wo_nin ?z1 ?_); (case z1 => first | assumption | exact NQ.memB_ch (by first | rfl | assumption) | exact NQ.memB_c (by first | rfl | assumption) | exact NQ.memB_l (by first | rfl | assumption) (by first | rfl | assumption) | exact NQ.memB_t (by first | rfl | assumption) (by first | rfl | assumption)))
  | ((with_reducible refine' NQ.wo_disp ?z1 ?z2 ?z3 ?_); (case z1 => decide +kernel); (case z2 => exact rfl); (case z3 => decide))
  | ((with_reducible refine' NQ.wo_split ?z1 ?z2 ?_); (case z1 => first | exact rfl | assumption | decide +kernel); (case z2 => first | assumption | omega | (simp only [List.length_cons, List.length_nil, List.length_append, List.length_map, NQ.rg_len, List.length_range, Str.length_append] <;> omega) | decide +kernel))
  | ((with_reducible refine' NQ.wo_join ?z1 ?z2 ?_); (case z1 => first | assumption | exact rfl); (case z2 => first | assumption))
  | ((with_reducible refine' NQ.wo_ixR_l ?z1 ?z2 ?_); (case z1 => first | exact NQ.atI0 | exact NQ.atI1 | exact NQ.atI2 | exact NQ.atI3 | exact NQ.atI4 | assumption); (case z2 => first | exact rfl | assumption))
  | ((with_reducible refine' NQ.wo_ixR_t ?z1 ?z2 ?_); (case z1 => first | exact NQ.atI0 | exact NQ.atI1 | exact NQ.atI2 | exact NQ.atI3 | exact NQ.atI4 | assumption); (case z2 => first | exact rfl | assumption))
  | ((with_reducible refine' NQ.wo_ix_s ?z1 ?z2 ?_); (case z1 => assumption); (case z2 => first | assumption | omega | (simp only [List.length_cons, List.length_nil, List.length_append, List.length_map, NQ.rg_len, List.length_range, Str.length_append] <;> omega) | decide +kernel))
  | ((with_reducible refine' NQ.wo_isi ?z1 ?z2 ?_); (case z1 => first | assumption | exact rfl); (case z2 => first | assumption | exact rfl))
  | ((with_reducible refine' NQ.wo_ix_d ?z1 ?z2 ?_); (case z1 => exact rfl); (case z2 => assumption)))
local macro_rules | `(tactic| walk_at "evq") => `(tactic| first
  | with_reducible refine NQ.wq_ePq ?_
  | with_reducible refine NQ.wq_notV ?_
  | with_reducible refine NQ.wq_isX ?_
  | ((with_reducible refine' NQ.wq_eP ?z1 ?z2 ?_); (case z1 => exact rfl); (case z2 => exact rfl))
  | ((with_reducible refine' NQ.wq_eq ?z1 ?_); (case z1 => assumption))
  | with_reducible refine NQ.wq_opq ?_
  | with_reducible refine NQ.wq_eC ?_
  | with_reducible refine NQ.wq_if ?_
  | with_reducible refine NQ.wq_andV ?_
  | with_reducible refine NQ.wq_orV ?_
  | with_reducible refine NQ.wq_ch ?_
  | ((with_reducible refine' NQ.wq_eV ?z1 ?_); (case z1 => exact rfl))
  | ((with_reducible refine NQ.g_wqo ?_); walk_at "evo"))
local macro_rules | `(tactic| walk_at "evs") => `(tactic| first
  | with_reducible refine NQ.ws_seq ?_
  | with_reducible refine NQ.ws_next ?_
  | with_reducible refine NQ.ws_brk ?_
  | with_reducible refine NQ.ws_cont ?_
  | with_reducible refine NQ.ws_set ?_
  | with_reducible refine NQ.ws_drop ?_
  | with_reducible refine NQ.ws_ret ?_
  | with_reducible refine NQ.ws_retN ?_
  | with_reducible refine NQ.ws_if ?_
  | with_reducible refine NQ.ws_for ?_
  | with_reducible refine NQ.ws_asg ?_
  | with_reducible refine NQ.ws_raise ?_
  | with_reducible refine NQ.ws_match ?_
  | with_reducible refine NQ.ws_mNil ?_
  | with_reducible refine NQ.ws_mAny ?_
  | with_reducible refine NQ.ws_mCs ?_
  | with_reducible refine NQ.ws_mCg ?_
  | with_reducible refine NQ.ws_tryAs ?_
  | with_reducible refine NQ.ws_try ?_
  | with_reducible refine NQ.ws_par2 ?_
  | with_reducible refine NQ.ws_mov ?_
  | with_reducible refine NQ.ws_bor ?_
  | with_reducible refine NQ.ws_setO ?_
  | with_reducible refine NQ.ws_forK ?_
  | with_reducible refine NQ.ws_tryA ?_
  | with_reducible refine NQ.ws_hdN ?_
  | with_reducible refine NQ.ws_hd1 ?_
  | with_reducible refine NQ.ws_hdA ?_
  | with_reducible refine NQ.ws_setN ?_
  | with_reducible refine NQ.ws_setIx ?_
  | ((with_reducible refine' NQ.ws_retV ?z1 ?_); (case z1 => exact rfl))
  | ((with_reducible refine' NQ.ws_aug ?z1 ?_); (case z1 => exact rfl))
  | ((with_reducible refine' NQ.ws_frz ?z1 ?_); (case z1 => exact rfl))
  | with_reducible refine NQ.ws_fld ?_
  | with_reducible refine NQ.ws_afld ?_
  | with_reducible refine NQ.ws_putD ?_
  | with_reducible refine NQ.ws_setP ?_)
local macro_rules | `(tactic| walk_at "eve") => `(tactic| first
  | with_reducible refine NQ.we_srt ?_
  | with_reducible refine NQ.we_sp ?_
  | with_reducible refine NQ.we_notW ?_
  | with_reducible refine NQ.we_tupRg ?_
  | with_reducible refine NQ.we_lstRg ?_
  | with_reducible refine NQ.we_ch ?_
  | with_reducible refine NQ.we_makeK ?_
  | with_reducible refine NQ.we_cm ?_
  | with_reducible refine NQ.we_lstO ?_
  | with_reducible refine NQ.we_callT ?_
  | with_reducible refine NQ.we_app ?_
  | with_reducible refine NQ.we_appP ?_
  | with_reducible refine NQ.we_newK ?_
  | with_reducible refine NQ.we_newT ?_
  | with_reducible refine NQ.we_make ?_
  | with_reducible refine NQ.we_methF ?_
  | ((with_reducible refine' NQ.we_meth ?z1 ?z2 ?_); (case z1 => exact rfl); (case z2 => decide +kernel))
  | with_reducible refine NQ.we_qE ?_
  | with_reducible refine NQ.we_opn ?_
  | with_reducible refine NQ.we_opnc ?_
  | with_reducible refine NQ.we_disp ?_
  | with_reducible refine NQ.we_call ?_
  | with_reducible refine NQ.we_if ?_
  | with_reducible refine NQ.we_andW ?_
  | with_reducible refine NQ.we_orW ?_
  | with_reducible refine NQ.we_lc ?_)
local macro_rules | `(tactic| walk_at "evt") => `(tactic| first
  | with_reducible refine NQ.wt_asB ?_
  | with_reducible refine NQ.wt_asTru ?_
  | with_reducible refine NQ.wt_not ?_
  | with_reducible refine NQ.wt_and ?_
  | with_reducible refine NQ.wt_or ?_
  | with_reducible refine NQ.wt_b ?_
  | with_reducible refine NQ.wt_i ?_
  | with_reducible refine NQ.wt_l ?_
  | with_reducible refine NQ.wt_n ?_
  | ((with_reducible refine' NQ.wt_s ?z1 ?_); (case z1 => first | assumption | omega | (simp only [List.length_cons, List.length_nil, List.length_append, List.length_map, NQ.rg_len, List.length_range, Str.length_append] <;> omega) | decide +kernel)))
local macro_rules | `(tactic| walk_at "ev1") => `(tactic| first
  | ((with_reducible refine NQ.g_wq ?_); walk_at "evq")
  | ((with_reducible refine NQ.g_ws ?_); walk_at "evs")
  | ((with_reducible refine NQ.g_we ?_); walk_at "eve")
  | ((with_reducible refine NQ.g_wt ?_); walk_at "evt")
  | ((with_reducible refine' NQ.nm_eq ?z1 ?_); (case z1 => (simp only [NQ.st0, NQ.stS, NQ.wp0, NQ.wpS, NQ.wb0, NQ.wbV, NQ.wbE, NQ.sk0, NQ.skV, NQ.skE, NQ.isO_fz, NQ.isO_vw, NQ.isO_all, NQ.isO_opt, NQ.isO_flds, NQ.isO_row, NQ.mp0, NQ.mpS, NQ.ap0, NQ.apS, NQ.rp0, NQ.rpS, if_true, if_false, Bool.false_eq_true] <;> exact rfl)))
  | with_reducible refine NQ.pw_nil ?_
  | with_reducible refine NQ.pw_fld ?_
  | with_reducible refine NQ.pw_ix ?_
  | with_reducible refine NQ.bk_mk ?_
  | with_reducible refine NQ.wi_en2 ?_
  | with_reducible refine NQ.wi_z ?_
  | with_reducible refine NQ.wo_nil ?_
  | with_reducible refine NQ.wo_new ?_
  | ((with_reducible refine' NQ.wo_mov ?z1 ?_); (case z1 => exact rfl))
  | with_reducible refine NQ.mkn ?_
  | ((with_reducible refine' NQ.mthF ?z1 ?_); (case z1 => first | assumption | decide +kernel))
  | ((with_reducible refine' NQ.fp_here ?z1 ?z2 ?_); (case z1 => (show _ < 1000; decide)); (case z2 => exact rfl))
  | with_reducible refine NQ.wa_nil ?_
  | with_reducible refine NQ.wa_val ?_
  | with_reducible refine NQ.wl_nil ?_
  | with_reducible refine NQ.wl_cons ?_
  | with_reducible refine NQ.wb_asBE ?_
  | with_reducible refine NQ.wb_asTruE ?_
  | with_reducible refine NQ.wb_qB ?_
  | with_reducible refine NQ.wb_yes ?_
  | with_reducible refine NQ.wb_not ?_
  | with_reducible refine NQ.wb_and ?_
  | with_reducible refine NQ.wb_or ?_
  | with_reducible refine NQ.wd_gN ?_
  | with_reducible refine NQ.wd_nil ?_
  | with_reducible refine NQ.wd_cons ?_
  | with_reducible refine NQ.wi_it ?_
  | with_reducible refine NQ.wi_r1 ?_
  | with_reducible refine NQ.wi_r2 ?_
  | with_reducible refine NQ.wi_en ?_
  | ((with_reducible refine' NQ.wa_var ?z1 ?_); (case z1 => exact rfl))
  | ((with_reducible refine' NQ.wd_gT ?z1 ?_); (case z1 => exact rfl))
  | ((with_reducible refine' NQ.wf_eq ?z1 ?_); (case z1 => assumption))
  | ((with_reducible refine' NQ.wf_eqX ?z1 ?_); (case z1 => assumption))
  | with_reducible refine NQ.wtw_b ?_
  | with_reducible refine NQ.wtw_n ?_
  | with_reducible refine NQ.wtw_i ?_
  | with_reducible refine NQ.wtw_l ?_
  | ((with_reducible refine' NQ.ite_t ?z1 ?_); (case z1 => first | exact rfl | assumption | exact decide_eq_true (by assumption)))
  | ((with_reducible refine' NQ.ite_f ?z1 ?_); (case z1 => first | exact rfl | assumption | exact decide_eq_false (by assumption)))
  | with_reducible refine NQ.is_mk ?_
  | ((with_reducible refine' NQ.at_mk ?z1 ?_); (case z1 => exact rfl))
  | ((with_reducible refine' NQ.so_mk ?z1 ?_); (case z1 => first | assumption | exact rfl))
  | ((with_reducible refine' NQ.s2_mk ?z1 ?_); (case z1 => first | assumption))
  | ((with_reducible refine' NQ.so_mk (t := true) ?z1 ?_); (case z1 => decide +kernel))
  | ((with_reducible refine' NQ.so_mk (t := false) ?z1 ?_); (case z1 => decide +kernel))
  | ((with_reducible refine' NQ.sd_mk ?z1 ?_); (case z1 => first | exact rfl | assumption | omega | exact NQ.insAt_c rfl rfl | exact NQ.insAt_c rfl (NQ.insAt_c rfl rfl) | exact ⟨_, _, rfl⟩ | (simp only [List.length_cons, List.length_nil, List.length_append, List.length_map, NQ.rg_len, List.length_range, NQ.sz_eq] <;> omega) | decide))
  | ((with_reducible refine' NQ.fn_mk ?z1 ?_); (case z1 => walk_at "fin"))
  | ((with_reducible refine' NQ.wf_fn ?_)))
local macro_rules | `(tactic| walk_at "ev") => `(tactic| repeat walk_at "ev1")
-- brokers
local macro_rules | `(tactic| walk_at "gb1") => `(tactic| first
  | walk_at "go1"
  | with_reducible refine g_prop ?_
  | with_reducible refine g_lenO ?_
  | with_reducible refine g_listO ?_
  | with_reducible refine g_methD ?_
  | with_reducible refine g_methG ?_
  | with_reducible refine g_makeM ?_
  | with_reducible refine g_inO ?_
  | with_reducible refine g_callV ?_
  | with_reducible refine g_callF ?_
  | with_reducible refine g_dc ?_
  | with_reducible refine g_ivals ?_
  | with_reducible refine g_iitems ?_
  | ((with_reducible refine' g_ifrz ?z1 ?_); (case z1 => first | exact upd_same | assumption))
  | with_reducible refine g_isB ?_
  | with_reducible refine g_isBn ?_
  | with_reducible refine g_dget1 ?_
  | with_reducible refine g_finX ?_
  | with_reducible refine g_rn1 ?_
  | with_reducible refine g_rn2 ?_
  | with_reducible refine g_rn3 ?_
  | with_reducible refine g_ite_reflT ?_
  | ((with_reducible refine' g_isdk ?z1 ?_); (case z1 => assumption)))
local macro_rules | `(tactic| walk_at "gb") => `(tactic| repeat walk_at "gb1")
local macro_rules | `(tactic| walk_at "evro") => `(tactic| first
  | ((with_reducible refine' NQ.wo_ix_l ?z1 ?_); (case z1 => first | exact NQ.atI0 | exact NQ.atI1 | exact NQ.atI2 | exact NQ.atI3 | exact NQ.atI4 | with_reducible assumption))
  | ((with_reducible refine' NQ.wo_ix_t ?z1 ?_); (case z1 => first | exact NQ.atI0 | exact NQ.atI1 | exact NQ.atI2 | exact NQ.atI3 | exact NQ.atI4 | with_reducible assumption))
  | ((with_reducible refine' NQ.wo_fld ?z1 ?_); (case z1 => exact rfl))
  | ((with_reducible refine' NQ.wo_eq ?z1 ?_); (case z1 => first | with_reducible assumption | exact NQ.eqB_ii | exact NQ.eqB_ss | exact NQ.eqB_bb | exact NQ.eqB_pl 9 (by first | rfl | with_reducible assumption) (by first | rfl | with_reducible assumption)))
  | ((with_reducible refine' NQ.wo_ne ?z1 ?_); (case z1 => first | with_reducible assumption | exact NQ.eqB_ii | exact NQ.eqB_ss | exact NQ.eqB_bb | exact NQ.eqB_pl 9 (by first | rfl | with_reducible assumption) (by first | rfl | with_reducible assumption)))
  | with_reducible refine NQ.wo_addi ?_
  | with_reducible refine NQ.wo_len_l ?_
  | ((with_reducible refine' NQ.wo_ix_dt ?z1 ?z2 ?_); (case z1 => first | exact rfl | with_reducible assumption); (case z2 => with_reducible assumption))
  | with_reducible refine NQ.wo_addAi ?_
  | with_reducible refine NQ.wo_addI ?_
  | with_reducible refine NQ.wo_subI ?_
  | with_reducible refine NQ.wo_subi ?_
  | with_reducible refine NQ.wo_cmp ?_
  | with_reducible refine NQ.wo_neg ?_
  | with_reducible refine NQ.wo_isN ?_
  | with_reducible refine NQ.wo_notN ?_
  | with_reducible refine NQ.wo_len_t ?_
  | with_reducible refine NQ.wo_len_c ?_
  | with_reducible refine NQ.wo_int_i ?_
  | with_reducible refine NQ.wo_int_b ?_
  | with_reducible refine NQ.wo_str_s ?_
  | with_reducible refine NQ.wo_abs ?_
  | with_reducible refine NQ.wo_max ?_
  | with_reducible refine NQ.wo_min ?_
  | with_reducible refine NQ.wo_list_l ?_
  | with_reducible refine NQ.wo_list_t ?_
  | with_reducible refine NQ.wo_list_c ?_
  | with_reducible refine NQ.wo_tuple ?_
  | with_reducible refine NQ.wo_slL1 ?_
  | with_reducible refine NQ.wo_slL2 ?_
  | with_reducible refine NQ.wo_slL3 ?_
  | ((with_reducible refine' NQ.wo_adds ?z1 ?_); (case z1 => first | with_reducible assumption | omega | (simp only [List.length_cons, List.length_nil, List.length_append, List.length_map, NQ.rg_len, List.length_range, Str.length_append] <;> omega) | decide +kernel))
  | ((with_reducible refine' NQ.wo_addAs ?z1 ?_); (case z1 => first | with_reducible assumption | omega | (simp only [List.length_cons, List.length_nil, List.length_append, List.length_map, NQ.rg_len, List.length_range, Str.length_append] <;> omega) | decide +kernel))
  | ((with_reducible refine' NQ.wo_addL ?z1 ?_); (case z1 => first | with_reducible assumption | omega | (simp only [List.length_cons, List.length_nil, List.length_append, List.length_map, NQ.rg_len, List.length_range, Str.length_append] <;> omega) | decide +kernel))
  | ((with_reducible refine' NQ.wo_addAl ?z1 ?_); (case z1 => first | with_reducible assumption | omega | (simp only [List.length_cons, List.length_nil, List.length_append, List.length_map, NQ.rg_len, List.length_range, Str.length_append] <;> omega) | decide +kernel))
  | ((with_reducible refine' NQ.wo_addU ?z1 ?_); (case z1 => first | with_reducible assumption | omega | (simp only [List.length_cons, List.length_nil, List.length_append, List.length_map, NQ.rg_len, List.length_range, Str.length_append] <;> omega) | decide +kernel))
  | ((with_reducible refine' NQ.wo_len_s ?z1 ?_); (case z1 => first | with_reducible assumption | omega | (simp only [List.length_cons, List.length_nil, List.length_append, List.length_map, NQ.rg_len, List.length_range, Str.length_append] <;> omega) | decide +kernel))
  | ((with_reducible refine' NQ.wo_list_s ?z1 ?_); (case z1 => first | with_reducible assumption | omega | (simp only [List.length_cons, List.length_nil, List.length_append, List.length_map, NQ.rg_len, List.length_range, Str.length_append] <;> omega) | decide +kernel))
  | ((with_reducible refine' NQ.wo_lst ?z1 ?_); (case z1 => first | with_reducible assumption | omega | (simp only [List.length_cons, List.length_nil, List.length_append, List.length_map, NQ.rg_len, List.length_range, Str.length_append] <;> omega) | decide +kernel))
  | ((with_reducible refine' NQ.wo_tup ?z1 ?_); (case z1 => first | with_reducible assumption | omega | (simp only [List.length_cons, List.length_nil, List.length_append, List.length_map, NQ.rg_len, List.length_range, Str.length_append] <;> omega) | decide +kernel))
  | ((with_reducible refine' NQ.wo_slS1 ?z1 ?_); (case z1 => first | with_reducible assumption | omega | (simp only [List.length_cons, List.length_nil, List.length_append, List.length_map, NQ.rg_len, List.length_range, Str.length_append] <;> omega) | decide +kernel))
  | ((with_reducible refine' NQ.wo_slS2 ?z1 ?_); (case z1 => first | with_reducible assumption | omega | (simp only [List.length_cons, List.length_nil, List.length_append, List.length_map, NQ.rg_len, List.length_range, Str.length_append] <;> omega) | decide +kernel))
  | ((with_reducible refine' NQ.wo_slS3 ?z1 ?_); (case z1 => first | with_reducible assumption | omega | (simp only [List.length_cons, List.length_nil, List.length_append, List.length_map, NQ.rg_len, List.length_range, Str.length_append] <;> omega) | decide +kernel))
  | ((with_reducible refine' NQ.wo_words ?z1 ?_); (case z1 => first | with_reducible assumption | omega | (simp only [List.length_cons, List.length_nil, List.length_append, List.length_map, NQ.rg_len, List.length_range, Str.length_append] <;> omega) | decide +kernel))
  | ((with_reducible refine' NQ.wo_strip ?z1 ?_); (case z1 => first | with_reducible assumption | omega | (simp only [List.length_cons, List.length_nil, List.length_append, List.length_map, NQ.rg_len, List.length_range, Str.length_append] <;> omega) | decide +kernel))
  | ((with_reducible refine' NQ.wo_muliR ?z1 ?z2 ?_); (case z1 => first | omega | with_reducible assumption | decide); (case z2 => first | omega | with_reducible assumption | decide))
  | ((with_reducible refine' NQ.wo_muliL ?z1 ?z2 ?_); (case z1 => first | omega | with_reducible assumption | decide); (case z2 => first | omega | with_reducible assumption | decide))
  | ((with_reducible refine' NQ.wo_mulAR ?z1 ?z2 ?_); (case z1 => first | omega | with_reducible assumption | decide); (case z2 => first | omega | with_reducible assumption | decide))
  | ((with_reducible refine' NQ.wo_mulAL ?z1 ?z2 ?_); (case z1 => first | omega | with_reducible assumption | decide); (case z2 => first | omega | with_reducible assumption | decide))
  | ((with_reducible refine' NQ.wo_muls ?z1 ?_); (case z1 => (refine ⟨?_, ?_, ?_⟩ <;> first | omega | decide | (exact Nat.le_of_ble_eq_true rfl) | (simp only [List.length_cons, List.length_nil, List.length_append, List.length_map, NQ.rg_len, List.length_range, Str.length_append] <;> omega) | with_reducible assumption)))
  | ((with_reducible refine' NQ.wo_mulL ?z1 ?_); (case z1 => (refine ⟨?_, ?_, ?_⟩ <;> first | omega | decide | (exact Nat.le_of_ble_eq_true rfl) | (simp only [List.length_cons, List.length_nil, List.length_append, List.length_map, NQ.rg_len, List.length_range, Str.length_append] <;> omega) | with_reducible assumption)))
  | ((with_reducible refine' NQ.wo_mulAl ?z1 ?_); (case z1 => (refine ⟨?_, ?_, ?_⟩ <;> first | omega | decide | (exact Nat.le_of_ble_eq_true rfl) | (simp only [List.length_cons, List.length_nil, List.length_append, List.length_map, NQ.rg_len, List.length_range, Str.length_append] <;> omega) | with_reducible assumption)))
  | ((with_reducible refine' NQ.wo_modi ?z1 ?_); (case z1 => first | omega | with_reducible assumption | decide))
  | ((with_reducible refine' NQ.wo_divi ?z1 ?z2 ?_); (case z1 => first | omega | with_reducible assumption | decide); (case z2 => first | omega | with_reducible assumption | decide))
  | ((with_reducible refine' NQ.wo_powi ?z1 ?z2 ?z3 ?z4 ?_); (case z1 => first | omega | with_reducible assumption | decide); (case z2 => first | omega | with_reducible assumption | decide); (case z3 => first | omega | with_reducible assumption | decide); (case z4 => first | omega | with_reducible assumption | decide))
  | ((with_reducible refine' NQ.wo_in ?z1 ?_); (case z1 => first | with_reducible assumption | exact NQ.memB_ch (by first | rfl | with_reducible assumption) | exact NQ.memB_c (by first | rfl | with_reducible assumption) | exact NQ.memB_l (by first | rfl | with_reducible assumption) (by first | rfl | with_reducible assumption) | exact NQ.memB_t (by first | rfl | with_reducible assumption) (by first | rfl | with_reducible assumption)))
  | ((with_reducible refine' NQ.wo_nin ?z1 ?_); (case z1 => first | with_reducible assumption | exact NQ.memB_ch (by first | rfl | with_reducible assumption) | exact NQ.memB_c (by first | rfl | with_reducible assumption) | exact NQ.memB_l (by first | rfl | with_reducible assumption) (by first | rfl | with_reducible assumption) | exact NQ.memB_t (by first | rfl | with_reducible assumption) (by first | rfl | with_reducible assumption)))
  | ((with_reducible refine' NQ.wo_disp ?z1 ?z2 ?z3 ?_); (case z1 => decide +kernel); (case z2 => exact rfl); (case z3 => decide))
  | ((with_reducible refine' NQ.wo_split ?z1 ?z2 ?_); (case z1 => first | exact rfl | with_reducible assumption | decide +kernel); (case z2 => first | with_reducible assumption | omega | (simp only [List.length_cons, List.length_nil, List.length_append, List.length_map, NQ.rg_len, List.length_range, Str.length_append] <;> omega) | decide +kernel))
  | ((with_reducible refine' NQ.wo_join ?z1 ?z2 ?_); (case z1 => first | with_reducible assumption | exact rfl); (case z2 => first | with_reducible assumption))
  | ((with_reducible refine' NQ.wo_ixR_l ?z1 ?z2 ?_); (case z1 => first | exact NQ.atI0 | exact NQ.atI1 | exact NQ.atI2 | exact NQ.atI3 | exact NQ.atI4 | with_reducible assumption); (case z2 => first | exact rfl | with_reducible assumption))
  | ((with_reducible refine' NQ.wo_ixR_t ?z1 ?z2 ?_); (case z1 => first | exact NQ.atI0 | exact NQ.atI1 | exact NQ.atI2 | exact NQ.atI3 | exact NQ.atI4 | with_reducible assumption); (case z2 => first | exact rfl | with_reducible assumption))
  | ((with_reducible refine' NQ.wo_ix_s ?z1 ?z2 ?_); (case z1 => with_reducible assumption); (case z2 => first | with_reducible assumption | omega | (simp only [List.length_cons, List.length_nil, List.length_append, List.length_map, NQ.rg_len, List.length_range, Str.length_append] <;> omega) | decide +kernel))
  | ((with_reducible refine' NQ.wo_isi ?z1 ?z2 ?_); (case z1 => first | with_reducible assumption | exact rfl); (case z2 => first | with_reducible assumption | exact rfl))
  | ((with_reducible refine' NQ.wo_ix_d ?z1 ?z2 ?_); (case z1 => exact rfl); (case z2 => with_reducible assumption)))
local macro_rules | `(tactic| walk_at "evrq") => `(tactic| first
  | with_reducible refine NQ.wq_ePq ?_
  | with_reducible refine NQ.wq_notV ?_
  | with_reducible refine NQ.wq_isX ?_
  | ((with_reducible refine' NQ.wq_eP ?z1 ?z2 ?_); (case z1 => exact rfl); (case z2 => exact rfl))
  | ((with_reducible refine' NQ.wq_eq ?z1 ?_); (case z1 => with_reducible assumption))
  | with_reducible refine NQ.wq_opq ?_
  | with_reducible refine NQ.wq_eC ?_
  | with_reducible refine NQ.wq_if ?_
  | with_reducible refine NQ.wq_andV ?_
  | with_reducible refine NQ.wq_orV ?_
  | with_reducible refine NQ.wq_ch ?_
  | ((with_reducible refine' NQ.wq_eV ?z1 ?_); (case z1 => exact rfl))
  | ((with_reducible refine NQ.g_wqo ?_); walk_at "evro"))
local macro_rules | `(tactic| walk_at "evrs") => `(tactic| first
  | with_reducible refine NQ.ws_seq ?_
  | with_reducible refine NQ.ws_next ?_
  | with_reducible refine NQ.ws_brk ?_
  | with_reducible refine NQ.ws_cont ?_
  | with_reducible refine NQ.ws_set ?_
  | with_reducible refine NQ.ws_drop ?_
  | with_reducible refine NQ.ws_ret ?_
  | with_reducible refine NQ.ws_retN ?_
  | with_reducible refine NQ.ws_if ?_
  | with_reducible refine NQ.ws_for ?_
  | with_reducible refine NQ.ws_asg ?_
  | with_reducible refine NQ.ws_raise ?_
  | with_reducible refine NQ.ws_match ?_
  | with_reducible refine NQ.ws_mNil ?_
  | with_reducible refine NQ.ws_mAny ?_
  | with_reducible refine NQ.ws_mCs ?_
  | with_reducible refine NQ.ws_mCg ?_
  | with_reducible refine NQ.ws_tryAs ?_
  | with_reducible refine NQ.ws_try ?_
  | with_reducible refine NQ.ws_par2 ?_
  | with_reducible refine NQ.ws_mov ?_
  | with_reducible refine NQ.ws_bor ?_
  | with_reducible refine NQ.ws_setO ?_
  | with_reducible refine NQ.ws_forK ?_
  | with_reducible refine NQ.ws_tryA ?_
  | with_reducible refine NQ.ws_hdN ?_
  | with_reducible refine NQ.ws_hd1 ?_
  | with_reducible refine NQ.ws_hdA ?_
  | with_reducible refine NQ.ws_setN ?_
  | with_reducible refine NQ.ws_setIx ?_
  | ((with_reducible refine' NQ.ws_retV ?z1 ?_); (case z1 => exact rfl))
  | ((with_reducible refine' NQ.ws_aug ?z1 ?_); (case z1 => exact rfl))
  | ((with_reducible refine' NQ.ws_frz ?z1 ?_); (case z1 => exact rfl))
  | with_reducible refine NQ.ws_fld ?_
  | with_reducible refine NQ.ws_afld ?_
  | with_reducible refine NQ.ws_putD ?_
  | with_reducible refine NQ.ws_setP ?_)
local macro_rules | `(tactic| walk_at "evre") => `(tactic| first
  | with_reducible refine NQ.we_srt ?_
  | with_reducible refine NQ.we_sp ?_
  | with_reducible refine NQ.we_notW ?_
  | with_reducible refine NQ.we_tupRg ?_
  | with_reducible refine NQ.we_lstRg ?_
  | with_reducible refine NQ.we_ch ?_
  | with_reducible refine NQ.we_makeK ?_
  | with_reducible refine NQ.we_cm ?_
  | with_reducible refine NQ.we_lstO ?_
  | with_reducible refine NQ.we_callT ?_
  | with_reducible refine NQ.we_app ?_
  | with_reducible refine NQ.we_appP ?_
  | with_reducible refine NQ.we_newK ?_
  | with_reducible refine NQ.we_newT ?_
  | with_reducible refine NQ.we_make ?_
  | with_reducible refine NQ.we_methF ?_
  | ((with_reducible refine' NQ.we_meth ?z1 ?z2 ?_); (case z1 => exact rfl); (case z2 => decide +kernel))
  | with_reducible refine NQ.we_qE ?_
  | with_reducible refine NQ.we_opn ?_
  | with_reducible refine NQ.we_opnc ?_
  | with_reducible refine NQ.we_disp ?_
  | with_reducible refine NQ.we_call ?_
  | with_reducible refine NQ.we_if ?_
  | with_reducible refine NQ.we_andW ?_
  | with_reducible refine NQ.we_orW ?_
  | with_reducible refine NQ.we_lc ?_)
local macro_rules | `(tactic| walk_at "evrt") => `(tactic| first
  | with_reducible refine NQ.wt_asB ?_
  | with_reducible refine NQ.wt_asTru ?_
  | with_reducible refine NQ.wt_not ?_
  | with_reducible refine NQ.wt_and ?_
  | with_reducible refine NQ.wt_or ?_
  | with_reducible refine NQ.wt_b ?_
  | with_reducible refine NQ.wt_i ?_
  | with_reducible refine NQ.wt_l ?_
  | with_reducible refine NQ.wt_n ?_
  | ((with_reducible refine' NQ.wt_s ?z1 ?_); (case z1 => first | with_reducible assumption | omega | (simp only [List.length_cons, List.length_nil, List.length_append, List.length_map, NQ.rg_len, List.length_range, Str.length_append] <;> omega) | decide +kernel)))
local macro_rules | `(tactic| walk_at "evr1") => `(tactic| first
  | ((with_reducible refine NQ.g_wq ?_); walk_at "evrq")
  | ((with_reducible refine NQ.g_ws ?_); walk_at "evrs")
  | ((with_reducible refine NQ.g_we ?_); walk_at "evre")
  | ((with_reducible refine NQ.g_wt ?_); walk_at "evrt")
  | ((with_reducible refine' NQ.nm_eq ?z1 ?_); (case z1 => (simp only [NQ.st0, NQ.stS, NQ.wp0, NQ.wpS, NQ.wb0, NQ.wbV, NQ.wbE, NQ.sk0, NQ.skV, NQ.skE, NQ.isO_fz, NQ.isO_vw, NQ.isO_all, NQ.isO_opt, NQ.isO_flds, NQ.isO_row, NQ.mp0, NQ.mpS, NQ.ap0, NQ.apS, NQ.rp0, NQ.rpS, if_true, if_false, Bool.false_eq_true] <;> exact rfl)))
  | with_reducible refine NQ.pw_nil ?_
  | with_reducible refine NQ.pw_fld ?_
  | with_reducible refine NQ.pw_ix ?_
  | with_reducible refine NQ.bk_mk ?_
  | with_reducible refine NQ.wi_en2 ?_
  | with_reducible refine NQ.wi_z ?_
  | with_reducible refine NQ.wo_nil ?_
  | with_reducible refine NQ.wo_new ?_
  | ((with_reducible refine' NQ.wo_mov ?z1 ?_); (case z1 => exact rfl))
  | with_reducible refine NQ.mkn ?_
  | ((with_reducible refine' NQ.mthF ?z1 ?_); (case z1 => first | with_reducible assumption | decide +kernel))
  | ((with_reducible refine' NQ.fp_here ?z1 ?z2 ?_); (case z1 => (show _ < 1000; decide)); (case z2 => exact rfl))
  | with_reducible refine NQ.wa_nil ?_
  | with_reducible refine NQ.wa_val ?_
  | with_reducible refine NQ.wl_nil ?_
  | with_reducible refine NQ.wl_cons ?_
  | with_reducible refine NQ.wb_asBE ?_
  | with_reducible refine NQ.wb_asTruE ?_
  | with_reducible refine NQ.wb_qB ?_
  | with_reducible refine NQ.wb_yes ?_
  | with_reducible refine NQ.wb_not ?_
  | with_reducible refine NQ.wb_and ?_
  | with_reducible refine NQ.wb_or ?_
  | with_reducible refine NQ.wd_gN ?_
  | with_reducible refine NQ.wd_nil ?_
  | with_reducible refine NQ.wd_cons ?_
  | with_reducible refine NQ.wi_it ?_
  | with_reducible refine NQ.wi_r1 ?_
  | with_reducible refine NQ.wi_r2 ?_
  | with_reducible refine NQ.wi_en ?_
  | ((with_reducible refine' NQ.wa_var ?z1 ?_); (case z1 => exact rfl))
  | ((with_reducible refine' NQ.wd_gT ?z1 ?_); (case z1 => exact rfl))
  | ((with_reducible refine' NQ.wf_eq ?z1 ?_); (case z1 => with_reducible assumption))
  | ((with_reducible refine' NQ.wf_eqX ?z1 ?_); (case z1 => with_reducible assumption))
  | with_reducible refine NQ.wtw_b ?_
  | with_reducible refine NQ.wtw_n ?_
  | with_reducible refine NQ.wtw_i ?_
  | with_reducible refine NQ.wtw_l ?_
  | ((with_reducible refine' NQ.ite_t ?z1 ?_); (case z1 => first | exact rfl | with_reducible assumption | exact decide_eq_true (by with_reducible assumption)))
  | ((with_reducible refine' NQ.ite_f ?z1 ?_); (case z1 => first | exact rfl | with_reducible assumption | exact decide_eq_false (by with_reducible assumption)))
  | with_reducible refine NQ.is_mk ?_
  | ((with_reducible refine' NQ.at_mk ?z1 ?_); (case z1 => exact rfl))
  | ((with_reducible refine' NQ.so_mk ?z1 ?_); (case z1 => first | with_reducible assumption | exact rfl))
  | ((with_reducible refine' NQ.s2_mk ?z1 ?_); (case z1 => first | with_reducible assumption))
  | ((with_reducible refine' NQ.so_mk (t := true) ?z1 ?_); (case z1 => decide +kernel))
  | ((with_reducible refine' NQ.so_mk (t := false) ?z1 ?_); (case z1 => decide +kernel))
  | ((with_reducible refine' NQ.sd_mk ?z1 ?_); (case z1 => first | exact rfl | with_reducible assumption | omega | exact NQ.insAt_c rfl rfl | exact NQ.insAt_c rfl (NQ.insAt_c rfl rfl) | exact ⟨_, _, rfl⟩ | (simp only [List.length_cons, List.length_nil, List.length_append, List.length_map, NQ.rg_len, List.length_range, NQ.sz_eq] <;> omega) | decide))
  | ((with_reducible refine' NQ.fn_mk ?z1 ?_); (case z1 => walk_at "fin"))
  | ((with_reducible refine' NQ.wf_fn ?_)))
local macro_rules | `(tactic| walk_at "evr") => `(tactic| repeat walk_at "evr1")
-- brokers
local macro_rules | `(tactic| walk_at "gb1") => `(tactic| first
  | walk_at "go1"
  | with_reducible refine g_prop ?_
  | with_reducible refine g_lenO ?_
  | with_reducible refine g_listO ?_
  | with_reducible refine g_methD ?_
  | with_reducible refine g_methG ?_
  | with_reducible refine g_makeM ?_
  | with_reducible refine g_inO ?_
  | with_reducible refine g_callV ?_
  | with_reducible refine g_callF ?_
  | with_reducible refine g_dc ?_
  | with_reducible refine g_ivals ?_
  | with_reducible refine g_iitems ?_
  | ((with_reducible refine' g_ifrz ?z1 ?_); (case z1 => first | exact upd_same | with_reducible assumption))
  | with_reducible refine g_isB ?_
  | with_reducible refine g_isBn ?_
  | with_reducible refine g_dget1 ?_
  | with_reducible refine g_finX ?_
  | with_reducible refine g_rn1 ?_
  | with_reducible refine g_rn2 ?_
  | with_reducible refine g_rn3 ?_
  | with_reducible refine g_ite_reflT ?_
  | ((with_reducible refine' g_isdk ?z1 ?_); (case z1 => with_reducible assumption)))
local macro_rules | `(tactic| walk_at "gb") => `(tactic| repeat walk_at "gb1")
def top (i : Nat) : Stmt := PySem.Challenge.pw_nowlater_k76_asks_answered_later.main.body.getD i (.Pass ⟨0, 0, 0, 0⟩)
abbrev FnP (K : PySem.W.Frag) (x qual : Str) (st : Stmt) (f : Addr) (fd : FuncData) : Prop := FunD K x qual (defArgs st) (defBody st) (defScope st) [] [] f fd
abbrev FnD (K : PySem.W.Frag) (x qual : Str) (st : Stmt) (dvs : List V) (kws : List (Str × V)) (f : Addr) (fd : FuncData) : Prop := FunD K x qual (defArgs st) (defBody st) (defScope st) dvs kws f fd

structure Txt (K : PySem.W.Frag) (mg : Str → Option Value) : Prop where
  n_int : mg "int" = none
  n_len : mg "len" = none
  n_list : mg "list" = none
  n_min : mg "min" = none
  n_range : mg "range" = none
  n_repr : mg "repr" = none
  g_AnswerObject : GV mg "AnswerObject" (.ref (He.ga K "AnswerObject"))
  m_AnswerObject : mg "AnswerObject" = some (.ref (He.ga K "AnswerObject"))
  g_Broker : GV mg "Broker" (.ref (He.ga K "Broker"))
  m_Broker : mg "Broker" = some (.ref (He.ga K "Broker"))
  g_Desk : GV mg "Desk" (.ref (He.ga K "Desk"))
  m_Desk : mg "Desk" = some (.ref (He.ga K "Desk"))
  g_Handle : GV mg "Handle" (.ref (He.ga K "Handle"))
  m_Handle : mg "Handle" = some (.ref (He.ga K "Handle"))
  g_Record : GV mg "Record" (.ref (He.ga K "Record"))
  m_Record : mg "Record" = some (.ref (He.ga K "Record"))
  g_UnknownRequest : GV mg "UnknownRequest" (.ref (He.ga K "UnknownRequest"))
  m_UnknownRequest : mg "UnknownRequest" = some (.ref (He.ga K "UnknownRequest"))
  c_AnswerObject : Cls K (He.ga K "AnswerObject")
  a_AnswerObject_broker : NoAttr K (He.ga K "AnswerObject") "broker"
  a_AnswerObject_record : NoAttr K (He.ga K "AnswerObject") "record"
  c_Broker : Cls K (He.ga K "Broker")
  a_Broker_names : NoAttr K (He.ga K "Broker") "names"
  a_Broker_desks : NoAttr K (He.ga K "Broker") "desks"
  a_Broker_entries : NoAttr K (He.ga K "Broker") "entries"
  a_Broker_entries_before : NoAttr K (He.ga K "Broker") "entries_before"
  a_Broker_made : NoAttr K (He.ga K "Broker") "made"
  a_Broker_depth : NoAttr K (He.ga K "Broker") "depth"
  c_Desk : Cls K (He.ga K "Desk")
  a_Desk_is_late : NoAttr K (He.ga K "Desk") "is_late"
  a_Desk_source : NoAttr K (He.ga K "Desk") "source"
  a_Desk_is_handling : NoAttr K (He.ga K "Desk") "is_handling"
  c_Handle : Cls K (He.ga K "Handle")
  a_Handle_broker : NoAttr K (He.ga K "Handle") "broker"
  a_Handle_record : NoAttr K (He.ga K "Handle") "record"
  a_Handle_request : NoAttr K (He.ga K "Handle") "request"
  a_Handle_sent : NoAttr K (He.ga K "Handle") "sent"
  c_Record : Cls K (He.ga K "Record")
  a_Record_number : NoAttr K (He.ga K "Record") "number"
  a_Record_request : NoAttr K (He.ga K "Record") "request"
  a_Record_sent : NoAttr K (He.ga K "Record") "sent"
  a_Record_call : NoAttr K (He.ga K "Record") "call"
  a_Record_owner : NoAttr K (He.ga K "Record") "owner"
  a_Record_is_calling : NoAttr K (He.ga K "Record") "is_calling"
abbrev s_Record___init__ : Stmt := (inClass (top 4) 0)
theorem sc_Record___init__ : FnScope ["self", "number", "request", "sent", "call", "owner"] ["self", "number", "request", "sent", "call", "owner"] (defScope s_Record___init__) := ⟨rfl, rfl, rfl, by decide +kernel, rfl, by decide +kernel, by decide +kernel⟩
abbrev s_Desk___init__ : Stmt := (inClass (top 5) 0)
theorem sc_Desk___init__ : FnScope ["self", "is_late"] ["self", "is_late"] (defScope s_Desk___init__) := ⟨rfl, rfl, rfl, by decide +kernel, rfl, by decide +kernel, by decide +kernel⟩
abbrev s_AnswerObject___init__ : Stmt := (inClass (top 6) 0)
theorem sc_AnswerObject___init__ : FnScope ["self", "broker", "record"] ["self", "broker", "record"] (defScope s_AnswerObject___init__) := ⟨rfl, rfl, rfl, by decide +kernel, rfl, by decide +kernel, by decide +kernel⟩
abbrev s_Handle___init__ : Stmt := (inClass (top 7) 0)
theorem sc_Handle___init__ : FnScope ["self", "broker", "record"] ["self", "broker", "record"] (defScope s_Handle___init__) := ⟨rfl, rfl, rfl, by decide +kernel, rfl, by decide +kernel, by decide +kernel⟩
abbrev s_Broker_is_idle : Stmt := (inClass (top 8) 6)
theorem sc_Broker_is_idle : FnScope ["self"] ["self"] (defScope s_Broker_is_idle) := ⟨rfl, rfl, rfl, by decide +kernel, rfl, by decide +kernel, by decide +kernel⟩
abbrev s_Broker_is_current : Stmt := (inClass (top 8) 7)
theorem sc_Broker_is_current : FnScope ["self", "record", "entry"] ["self", "record"] (defScope s_Broker_is_current) := ⟨rfl, rfl, rfl, by decide +kernel, rfl, by decide +kernel, by decide +kernel⟩
abbrev s_Broker_desk_of : Stmt := (inClass (top 8) 1)
theorem sc_Broker_desk_of : FnScope ["self", "name"] ["self", "name"] (defScope s_Broker_desk_of) := ⟨rfl, rfl, rfl, by decide +kernel, rfl, by decide +kernel, by decide +kernel⟩
abbrev s_Broker_open_entries : Stmt := (inClass (top 8) 8)
theorem sc_Broker_open_entries : FnScope ["self", "entry"] ["self"] (defScope s_Broker_open_entries) := ⟨rfl, rfl, rfl, by decide +kernel, rfl, by decide +kernel, by decide +kernel⟩
abbrev s_Broker_open_entry : Stmt := (inClass (top 8) 9)
theorem sc_Broker_open_entry : FnScope ["self", "name", "entry"] ["self", "name"] (defScope s_Broker_open_entry) := ⟨rfl, rfl, rfl, by decide +kernel, rfl, by decide +kernel, by decide +kernel⟩
abbrev s_Broker___contains__ : Stmt := (inClass (top 8) 10)
theorem sc_Broker___contains__ : FnScope ["self", "name"] ["self", "name"] (defScope s_Broker___contains__) := ⟨rfl, rfl, rfl, by decide +kernel, rfl, by decide +kernel, by decide +kernel⟩
abbrev s_Broker___len__ : Stmt := (inClass (top 8) 11)
theorem sc_Broker___len__ : FnScope ["self"] ["self"] (defScope s_Broker___len__) := ⟨rfl, rfl, rfl, by decide +kernel, rfl, by decide +kernel, by decide +kernel⟩
abbrev s_Broker_close : Stmt := (inClass (top 8) 12)
theorem sc_Broker_close : FnScope ["self", "record", "name", "entry"] ["self", "record"] (defScope s_Broker_close) := ⟨rfl, rfl, rfl, by decide +kernel, rfl, by decide +kernel, by decide +kernel⟩
abbrev s_law_source__law_keep : Stmt := (inDef (top 16) 0)
theorem sc_law_source__law_keep : NdefX.NScope ["_law_sent", "_law_answer", "_law_broker_here", "_law_held", "_law_log", "_law_name"] ["_law_sent", "_law_answer"] ["_law_broker_here", "_law_held", "_law_log", "_law_name"] (C8.fnScope s_law_source__law_keep) := NdefX.nscope_by (by decide +kernel)
abbrev mf_law_source__law_keep (cl : List (Str × Addr)) (c : Addr) : MF := ⟨"_law_keep", "_law_source.<locals>._law_keep", C8.fnArgs s_law_source__law_keep, .stmts (C8.fnBody s_law_source__law_keep), C8.fnScope s_law_source__law_keep, cl, c⟩
abbrev s_law_call__law_told : Stmt := (inDef (top 17) 0)
theorem sc_law_call__law_told : NdefX.NScope ["_law_sent", "_law_got", "_law_broker_here", "_law_log", "_law_mark", "_law_name"] ["_law_sent", "_law_got"] ["_law_broker_here", "_law_log", "_law_mark", "_law_name"] (C8.fnScope s_law_call__law_told) := NdefX.nscope_by (by decide +kernel)
abbrev mf_law_call__law_told (cl : List (Str × Addr)) (c : Addr) : MF := ⟨"_law_told", "_law_call.<locals>._law_told", C8.fnArgs s_law_call__law_told, .stmts (C8.fnBody s_law_call__law_told), C8.fnScope s_law_call__law_told, cl, c⟩
abbrev s_Broker_waiting_entries : Stmt := (inClass (top 8) 19)
theorem sc_Broker_waiting_entries : FnScope ["self", "entry"] ["self"] (defScope s_Broker_waiting_entries) := ⟨rfl, rfl, rfl, by decide +kernel, rfl, by decide +kernel, by decide +kernel⟩
abbrev s_Broker_connect : Stmt := (inClass (top 8) 5)
theorem sc_Broker_connect : FnScope ["self", "name", "source", "desk"] ["self", "name", "source"] (defScope s_Broker_connect) := ⟨rfl, rfl, rfl, by decide +kernel, rfl, by decide +kernel, by decide +kernel⟩
abbrev s_Broker_call_source : Stmt := (inClass (top 8) 15)
theorem sc_Broker_call_source : FnScope ["self", "source", "record", "depth"] ["self", "source", "record"] (defScope s_Broker_call_source) := ⟨rfl, rfl, rfl, by decide +kernel, rfl, by decide +kernel, by decide +kernel⟩
abbrev s_Broker_answer_at_once : Stmt := (inClass (top 8) 17)
theorem sc_Broker_answer_at_once : FnScope ["self", "desk", "record", "value", "depth"] ["self", "desk", "record", "value"] (defScope s_Broker_answer_at_once) := ⟨rfl, rfl, rfl, by decide +kernel, rfl, by decide +kernel, by decide +kernel⟩
abbrev s_Broker_answer_idle : Stmt := (inClass (top 8) 18)
theorem sc_Broker_answer_idle : FnScope ["self", "record", "value", "depth"] ["self", "record", "value"] (defScope s_Broker_answer_idle) := ⟨rfl, rfl, rfl, by decide +kernel, rfl, by decide +kernel, by decide +kernel⟩
abbrev s_Broker_receive : Stmt := (inClass (top 8) 16)
theorem sc_Broker_receive : FnScope ["self", "record", "value", "present", "waits", "desk", "kept", "name", "entry"] ["self", "record", "value"] (defScope s_Broker_receive) := ⟨rfl, rfl, rfl, by decide +kernel, rfl, by decide +kernel, by decide +kernel⟩
abbrev s_AnswerObject___call__ : Stmt := (inClass (top 6) 1)
theorem sc_AnswerObject___call__ : FnScope ["self", "value"] ["self", "value"] (defScope s_AnswerObject___call__) := ⟨rfl, rfl, rfl, by decide +kernel, rfl, by decide +kernel, by decide +kernel⟩
abbrev s_Broker_make_ask : Stmt := (inClass (top 8) 14)
theorem sc_Broker_make_ask : FnScope ["self", "owner", "name", "sent", "call", "replace", "desk", "record"] ["self", "owner", "name", "sent", "call", "replace"] (defScope s_Broker_make_ask) := ⟨rfl, rfl, rfl, by decide +kernel, rfl, by decide +kernel, by decide +kernel⟩
abbrev s_Broker_ask : Stmt := (inClass (top 8) 13)
theorem sc_Broker_ask : FnScope ["self", "name", "sent", "call", "replace"] ["self", "name", "sent", "call", "replace"] (defScope s_Broker_ask) := ⟨rfl, rfl, rfl, by decide +kernel, rfl, by decide +kernel, by decide +kernel⟩
abbrev s_Broker_waiting : Stmt := (inClass (top 8) 20)
theorem sc_Broker_waiting : GScope ["self", "record", "values"] ["self"] (defScope s_Broker_waiting) := ⟨rfl, rfl, rfl, by decide +kernel, rfl, by decide +kernel, by decide +kernel⟩
abbrev s_Broker___init__ : Stmt := (inClass (top 8) 0)
theorem sc_Broker___init__ : FnScope ["self", "put_off", "requests", "name"] ["self", "put_off", "requests"] (defScope s_Broker___init__) := ⟨rfl, rfl, rfl, by decide +kernel, rfl, by decide +kernel, by decide +kernel⟩
abbrev s_law_draw : Stmt := (top 11)
theorem sc_law_draw : FnScope ["_law_pool_here", "_law_many", "_law_greats", "_law_smalls", "_law_seed", "_law_count", "_law_digit", "_law_cell"] ["_law_pool_here", "_law_many"] (defScope s_law_draw) := ⟨rfl, rfl, rfl, by decide +kernel, rfl, by decide +kernel, by decide +kernel⟩
abbrev s_law_value : Stmt := (top 14)
theorem sc_law_value : FnScope ["_law_pool_here", "_law_kind", "_law_number"] ["_law_pool_here"] (defScope s_law_value) := ⟨rfl, rfl, rfl, by decide +kernel, rfl, by decide +kernel, by decide +kernel⟩
abbrev s_law_word : Stmt := (top 12)
theorem sc_law_word : FnScope ["_law_pool_here", "_law_taken", "_law_letters", "_law_word_here", "_law_k", "_law_at", "_law_x"] ["_law_pool_here", "_law_taken"] (defScope s_law_word) := ⟨rfl, rfl, rfl, by decide +kernel, rfl, by decide +kernel, by decide +kernel⟩
abbrev s_law_words : Stmt := (top 13)
theorem sc_law_words : FnScope ["_law_pool_here", "_law_many", "_law_words_here", "_law_k"] ["_law_pool_here", "_law_many"] (defScope s_law_words) := ⟨rfl, rfl, rfl, by decide +kernel, rfl, by decide +kernel, by decide +kernel⟩
abbrev s_law_pool : Stmt := (top 10)
theorem sc_law_pool : FnScope ["_law_script", "_law_greats", "_law_cell", "_law_smalls"] ["_law_script"] (defScope s_law_pool) := ⟨rfl, rfl, rfl, by decide +kernel, rfl, by decide +kernel, by decide +kernel⟩
abbrev s_law_broker : Stmt := (top 15)
theorem sc_law_broker : FnScope ["_law_names", "_law_late"] ["_law_names", "_law_late"] (defScope s_law_broker) := ⟨rfl, rfl, rfl, by decide +kernel, rfl, by decide +kernel, by decide +kernel⟩
abbrev s_law_alike : Stmt := (top 18)
theorem sc_law_alike : FnScope ["_law_log", "_law_due"] ["_law_log", "_law_due"] (defScope s_law_alike) := ⟨rfl, rfl, rfl, by decide +kernel, rfl, by decide +kernel, by decide +kernel⟩
abbrev s_law_shown : Stmt := (top 19)
theorem sc_law_shown : FnScope ["_law_broker_here", "_law_names", "_law_opened", "_law_k", "_law_many"] ["_law_broker_here", "_law_names", "_law_opened"] (defScope s_law_shown) := ⟨rfl, rfl, rfl, by decide +kernel, rfl, by decide +kernel, by decide +kernel⟩
abbrev s_law_source : Stmt := (top 16)
theorem sc_law_source : FnScope ["_law_broker_here", "_law_name", "_law_log", "_law_held", "_law_keep"] ["_law_broker_here", "_law_name", "_law_log", "_law_held"] (defScope s_law_source) := ⟨rfl, rfl, rfl, by decide +kernel, rfl, by decide +kernel, by decide +kernel⟩
abbrev s_law_call : Stmt := (top 17)
theorem sc_law_call : FnScope ["_law_broker_here", "_law_name", "_law_log", "_law_mark", "_law_told"] ["_law_broker_here", "_law_name", "_law_log", "_law_mark"] (defScope s_law_call) := ⟨rfl, rfl, rfl, by decide +kernel, rfl, by decide +kernel, by decide +kernel⟩
abbrev s_law_ask_deed : Stmt := (top 20)
theorem sc_law_ask_deed : FnScope ["_law_pool_here", "_law_world", "_law_broker_here", "_law_names", "_law_sourced", "_law_opened", "_law_made", "_law_log", "_law_due", "_law_held", "_law_at", "_law_sent", "_law_again", "_law_mark", "_law_call_here", "_law_handle"] ["_law_pool_here", "_law_world"] (defScope s_law_ask_deed) := ⟨rfl, rfl, rfl, by decide +kernel, rfl, by decide +kernel, by decide +kernel⟩
abbrev s_law_answer_deed : Stmt := (top 21)
theorem sc_law_answer_deed : FnScope ["_law_pool_here", "_law_world", "_law_broker_here", "_law_names", "_law_sourced", "_law_opened", "_law_made", "_law_log", "_law_due", "_law_held", "_law_chosen", "_law_mark", "_law_at", "_law_sent", "_law_place", "_law_got", "_law_taken"] ["_law_pool_here", "_law_world"] (defScope s_law_answer_deed) := ⟨rfl, rfl, rfl, by decide +kernel, rfl, by decide +kernel, by decide +kernel⟩
abbrev s_law : Stmt := (top 22)
theorem sc_law : FnScope ["_law_script", "_law_pool_here", "_law_names", "_law_broker_here", "_law_name", "_law_sourced", "_law_log", "_law_held", "_law_k", "_law_due", "_law_made", "_law_opened", "_law_world", "_law_fine"] ["_law_script"] (defScope s_law) := ⟨rfl, rfl, rfl, by decide +kernel, rfl, by decide +kernel, by decide +kernel⟩
abbrev s_UnknownRequest___init__ : Stmt := (inClass (top 2) 0)
theorem sc_UnknownRequest___init__ : FnScope ["self", "name"] ["self", "name"] (defScope s_UnknownRequest___init__) := ⟨rfl, rfl, rfl, by decide +kernel, rfl, by decide +kernel, by decide +kernel⟩
def fxs : List Fx := [.fa (.glo "AnswerObject"),
  .fa (.glo "Broker"),
  .fa (.glo "Desk"),
  .fa (.glo "Handle"),
  .fa (.glo "Record"),
  .fa (.glo "UnknownRequest"),
  .fa (.glo "_law_alike"),
  .fa (.glo "_law_answer_deed"),
  .fa (.glo "_law_ask_deed"),
  .fa (.glo "_law_broker"),
  .fa (.glo "_law_call"),
  .fa (.glo "_law_draw"),
  .fa (.glo "_law_pool"),
  .fa (.glo "_law_shown"),
  .fa (.glo "_law_source"),
  .fa (.glo "_law_value"),
  .fa (.glo "_law_word"),
  .fa (.glo "_law_words"),
  .fa (.free "int"),
  .fa (.free "len"),
  .fa (.free "list"),
  .fa (.free "min"),
  .fa (.free "range"),
  .fa (.free "repr"),
  .oex "UnknownRequest",
  .fnI "UnknownRequest",
  .fa (.noat "UnknownRequest" "name"),
  .fa (.cls "Record"),
  .fa (.mkr "Record"),
  .fa (.noat "Record" "number"),
  .fa (.noat "Record" "request"),
  .fa (.noat "Record" "sent"),
  .fa (.noat "Record" "call"),
  .fa (.noat "Record" "owner"),
  .fa (.noat "Record" "is_calling"),
  .fa (.cls "Desk"),
  .fa (.mkr "Desk"),
  .fa (.noat "Desk" "is_late"),
  .fa (.noat "Desk" "source"),
  .fa (.noat "Desk" "is_handling"),
  .fa (.cls "Broker"),
  .fa (.mkr "Broker"),
  .fa (.noat "Broker" "names"),
  .fa (.noat "Broker" "desks"),
  .fa (.noat "Broker" "entries"),
  .fa (.noat "Broker" "entries_before"),
  .fa (.noat "Broker" "made"),
  .fa (.noat "Broker" "depth"),
  .fa (.cls "AnswerObject"),
  .fa (.mkr "AnswerObject"),
  .fa (.noat "AnswerObject" "broker"),
  .fa (.noat "AnswerObject" "record"),
  .fa (.cls "Handle"),
  .fa (.mkr "Handle"),
  .fa (.noat "Handle" "broker"),
  .fa (.noat "Handle" "record"),
  .fa (.noat "Handle" "request"),
  .fa (.noat "Handle" "sent"),
  .fa (.meth "Broker" "is_current"),
  .fnF "Broker" "is_current",
  .fa (.meth "Broker" "desk_of"),
  .fnF "Broker" "desk_of",
  .fa (.meth "Broker" "open_entries"),
  .fnF "Broker" "open_entries",
  .fa (.meth "Broker" "open_entry"),
  .fnF "Broker" "open_entry",
  .fa (.meth "Broker" "__contains__"),
  .fnF "Broker" "__contains__",
  .fa (.meth "Broker" "__len__"),
  .fnF "Broker" "__len__",
  .fa (.meth "Broker" "close"),
  .fnF "Broker" "close",
  .fa (.meth "Broker" "waiting_entries"),
  .fnF "Broker" "waiting_entries",
  .fa (.meth "Broker" "connect"),
  .fnF "Broker" "connect",
  .fa (.meth "Broker" "call_source"),
  .fnF "Broker" "call_source",
  .fa (.meth "Broker" "answer_at_once"),
  .fnF "Broker" "answer_at_once",
  .fa (.meth "Broker" "answer_idle"),
  .fnF "Broker" "answer_idle",
  .fa (.meth "Broker" "receive"),
  .fnF "Broker" "receive",
  .fa (.meth "AnswerObject" "__call__"),
  .fnF "AnswerObject" "__call__",
  .fa (.meth "Broker" "make_ask"),
  .fnF "Broker" "make_ask",
  .fa (.meth "Broker" "ask"),
  .fnF "Broker" "ask",
  .fa (.meth "Broker" "waiting"),
  .fnF "Broker" "waiting",
  .fa (.glo "law")]
def fys : List Fy := []
def fzs : List Fz := []
def d_UnknownRequest___init__ : He5.DefA := ⟨fun K => He.ma K (He.ga K "UnknownRequest") "__init__", "__init__", "UnknownRequest.__init__", defArgs s_UnknownRequest___init__, defBody s_UnknownRequest___init__, defScope s_UnknownRequest___init__, [], []⟩
def d_Record___init__ : He5.DefA := ⟨fun K => He.ma K (He.ga K "Record") "__init__", "__init__", "Record.__init__", defArgs s_Record___init__, defBody s_Record___init__, defScope s_Record___init__, [], []⟩
def d_Desk___init__ : He5.DefA := ⟨fun K => He.ma K (He.ga K "Desk") "__init__", "__init__", "Desk.__init__", defArgs s_Desk___init__, defBody s_Desk___init__, defScope s_Desk___init__, [], []⟩
def d_AnswerObject___init__ : He5.DefA := ⟨fun K => He.ma K (He.ga K "AnswerObject") "__init__", "__init__", "AnswerObject.__init__", defArgs s_AnswerObject___init__, defBody s_AnswerObject___init__, defScope s_AnswerObject___init__, [], []⟩
def d_Handle___init__ : He5.DefA := ⟨fun K => He.ma K (He.ga K "Handle") "__init__", "__init__", "Handle.__init__", defArgs s_Handle___init__, defBody s_Handle___init__, defScope s_Handle___init__, [], []⟩
def d_Broker_is_idle : He5.DefA := ⟨fun K => He5.wf K (He.ga K "Broker") "property" "is_idle", "is_idle", "Broker.is_idle", defArgs s_Broker_is_idle, defBody s_Broker_is_idle, defScope s_Broker_is_idle, [], []⟩
def d_Broker_is_current : He5.DefA := ⟨fun K => He.ma K (He.ga K "Broker") "is_current", "is_current", "Broker.is_current", defArgs s_Broker_is_current, defBody s_Broker_is_current, defScope s_Broker_is_current, [], []⟩
def d_Broker_desk_of : He5.DefA := ⟨fun K => He.ma K (He.ga K "Broker") "desk_of", "desk_of", "Broker.desk_of", defArgs s_Broker_desk_of, defBody s_Broker_desk_of, defScope s_Broker_desk_of, [], []⟩
def d_Broker_open_entries : He5.DefA := ⟨fun K => He.ma K (He.ga K "Broker") "open_entries", "open_entries", "Broker.open_entries", defArgs s_Broker_open_entries, defBody s_Broker_open_entries, defScope s_Broker_open_entries, [], []⟩
def d_Broker_open_entry : He5.DefA := ⟨fun K => He.ma K (He.ga K "Broker") "open_entry", "open_entry", "Broker.open_entry", defArgs s_Broker_open_entry, defBody s_Broker_open_entry, defScope s_Broker_open_entry, [], []⟩
def d_Broker___contains__ : He5.DefA := ⟨fun K => He.ma K (He.ga K "Broker") "__contains__", "__contains__", "Broker.__contains__", defArgs s_Broker___contains__, defBody s_Broker___contains__, defScope s_Broker___contains__, [], []⟩
def d_Broker___len__ : He5.DefA := ⟨fun K => He.ma K (He.ga K "Broker") "__len__", "__len__", "Broker.__len__", defArgs s_Broker___len__, defBody s_Broker___len__, defScope s_Broker___len__, [], []⟩
def d_Broker_close : He5.DefA := ⟨fun K => He.ma K (He.ga K "Broker") "close", "close", "Broker.close", defArgs s_Broker_close, defBody s_Broker_close, defScope s_Broker_close, [], []⟩
def d_Broker_waiting_entries : He5.DefA := ⟨fun K => He.ma K (He.ga K "Broker") "waiting_entries", "waiting_entries", "Broker.waiting_entries", defArgs s_Broker_waiting_entries, defBody s_Broker_waiting_entries, defScope s_Broker_waiting_entries, [], []⟩
def d_Broker_connect : He5.DefA := ⟨fun K => He.ma K (He.ga K "Broker") "connect", "connect", "Broker.connect", defArgs s_Broker_connect, defBody s_Broker_connect, defScope s_Broker_connect, [], []⟩
def d_Broker_call_source : He5.DefA := ⟨fun K => He.ma K (He.ga K "Broker") "call_source", "call_source", "Broker.call_source", defArgs s_Broker_call_source, defBody s_Broker_call_source, defScope s_Broker_call_source, [], []⟩
def d_Broker_answer_at_once : He5.DefA := ⟨fun K => He.ma K (He.ga K "Broker") "answer_at_once", "answer_at_once", "Broker.answer_at_once", defArgs s_Broker_answer_at_once, defBody s_Broker_answer_at_once, defScope s_Broker_answer_at_once, [], []⟩
def d_Broker_answer_idle : He5.DefA := ⟨fun K => He.ma K (He.ga K "Broker") "answer_idle", "answer_idle", "Broker.answer_idle", defArgs s_Broker_answer_idle, defBody s_Broker_answer_idle, defScope s_Broker_answer_idle, [], []⟩
def d_Broker_receive : He5.DefA := ⟨fun K => He.ma K (He.ga K "Broker") "receive", "receive", "Broker.receive", defArgs s_Broker_receive, defBody s_Broker_receive, defScope s_Broker_receive, [], []⟩
def d_AnswerObject___call__ : He5.DefA := ⟨fun K => He.ma K (He.ga K "AnswerObject") "__call__", "__call__", "AnswerObject.__call__", defArgs s_AnswerObject___call__, defBody s_AnswerObject___call__, defScope s_AnswerObject___call__, [], []⟩
def d_Broker_make_ask : He5.DefA := ⟨fun K => He.ma K (He.ga K "Broker") "make_ask", "make_ask", "Broker.make_ask", defArgs s_Broker_make_ask, defBody s_Broker_make_ask, defScope s_Broker_make_ask, [], []⟩
def d_Broker_ask : He5.DefA := ⟨fun K => He.ma K (He.ga K "Broker") "ask", "ask", "Broker.ask", defArgs s_Broker_ask, defBody s_Broker_ask, defScope s_Broker_ask, [], [("replace", He.Dv.bl false)]⟩
def d_Broker_waiting : He5.DefA := ⟨fun K => He.ma K (He.ga K "Broker") "waiting", "waiting", "Broker.waiting", defArgs s_Broker_waiting, defBody s_Broker_waiting, defScope s_Broker_waiting, [], []⟩
def d_Broker___init__ : He5.DefA := ⟨fun K => He.ma K (He.ga K "Broker") "__init__", "__init__", "Broker.__init__", defArgs s_Broker___init__, defBody s_Broker___init__, defScope s_Broker___init__, [], []⟩
def d_law_draw : He5.DefA := ⟨fun K => He.ga K "_law_draw", "_law_draw", "_law_draw", defArgs s_law_draw, defBody s_law_draw, defScope s_law_draw, [], []⟩
def d_law_value : He5.DefA := ⟨fun K => He.ga K "_law_value", "_law_value", "_law_value", defArgs s_law_value, defBody s_law_value, defScope s_law_value, [], []⟩
def d_law_word : He5.DefA := ⟨fun K => He.ga K "_law_word", "_law_word", "_law_word", defArgs s_law_word, defBody s_law_word, defScope s_law_word, [], []⟩
def d_law_words : He5.DefA := ⟨fun K => He.ga K "_law_words", "_law_words", "_law_words", defArgs s_law_words, defBody s_law_words, defScope s_law_words, [], []⟩
def d_law_pool : He5.DefA := ⟨fun K => He.ga K "_law_pool", "_law_pool", "_law_pool", defArgs s_law_pool, defBody s_law_pool, defScope s_law_pool, [], []⟩
def d_law_broker : He5.DefA := ⟨fun K => He.ga K "_law_broker", "_law_broker", "_law_broker", defArgs s_law_broker, defBody s_law_broker, defScope s_law_broker, [], []⟩
def d_law_alike : He5.DefA := ⟨fun K => He.ga K "_law_alike", "_law_alike", "_law_alike", defArgs s_law_alike, defBody s_law_alike, defScope s_law_alike, [], []⟩
def d_law_shown : He5.DefA := ⟨fun K => He.ga K "_law_shown", "_law_shown", "_law_shown", defArgs s_law_shown, defBody s_law_shown, defScope s_law_shown, [], []⟩
def d_law_source : He5.DefA := ⟨fun K => He.ga K "_law_source", "_law_source", "_law_source", defArgs s_law_source, defBody s_law_source, defScope s_law_source, [], []⟩
def d_law_call : He5.DefA := ⟨fun K => He.ga K "_law_call", "_law_call", "_law_call", defArgs s_law_call, defBody s_law_call, defScope s_law_call, [], []⟩
def d_law_ask_deed : He5.DefA := ⟨fun K => He.ga K "_law_ask_deed", "_law_ask_deed", "_law_ask_deed", defArgs s_law_ask_deed, defBody s_law_ask_deed, defScope s_law_ask_deed, [], []⟩
def d_law_answer_deed : He5.DefA := ⟨fun K => He.ga K "_law_answer_deed", "_law_answer_deed", "_law_answer_deed", defArgs s_law_answer_deed, defBody s_law_answer_deed, defScope s_law_answer_deed, [], []⟩
def d_law : He5.DefA := ⟨fun K => He.ga K "law", "law", "law", defArgs s_law, defBody s_law, defScope s_law, [], []⟩
def fns : List He5.DefA := [d_UnknownRequest___init__, d_Record___init__, d_Desk___init__, d_AnswerObject___init__, d_Handle___init__, d_Broker_is_idle, d_Broker_is_current, d_Broker_desk_of, d_Broker_open_entries, d_Broker_open_entry, d_Broker___contains__, d_Broker___len__, d_Broker_close, d_Broker_waiting_entries, d_Broker_connect, d_Broker_call_source, d_Broker_answer_at_once, d_Broker_answer_idle, d_Broker_receive, d_AnswerObject___call__, d_Broker_make_ask, d_Broker_ask, d_Broker_waiting, d_Broker___init__, d_law_draw, d_law_value, d_law_word, d_law_words, d_law_pool, d_law_broker, d_law_alike, d_law_shown, d_law_source, d_law_call, d_law_ask_deed, d_law_answer_deed, d_law]
def tfs : List He.Defn := [("_law_source", none), ("_law_call", none)]
abbrev RR : PySem.W.OpenRow := PySem.W.OpenLaw.row PySem.Challenge.rw_nowlater_k76_asks_answered_later
def ex (K : PySem.W.Frag) : Bool := (fxB fxs K && (fyB fys K && fzB fzs K)) && (propB K (He.ga K "Broker") "is_idle" && tneB tfs K)
def ad0 : List Addr := [3, 6, 4, 21, 38, 58, 79, 107, 143, 326, 335, 342, 347, 354, 361, 368, 375, 382, 389, 394, 401, 406, 411, 0, 20]
def ad1 : List Addr := [37, 57, 78, 106, 142, 325, 334, 341, 346, 353, 360, 367, 374, 381, 388, 393, 400, 405, 410, 15, 16, 17, 18, 19, 35]
def ad2 : List Addr := [36, 39, 55, 56, 59, 60, 76, 77, 80, 81, 97, 104, 105, 108, 109, 125, 133, 140, 141, 144, 145, 161, 168, 175, 182]
def ad3 : List Addr := [189, 196, 204, 211, 216, 223, 230, 237, 242, 250, 257, 264, 269, 276, 283, 288, 295, 302, 309, 316, 323, 324, 327, 328, 331]
def ad4 : List Addr := [332, 333, 336, 337, 338, 339, 340, 343, 344, 345, 348, 349, 350, 351, 352, 355, 356, 357, 358, 359, 362, 363, 364, 365, 366]
def ad5 : List Addr := [369, 370, 371, 372, 373, 376, 377, 378, 379, 380, 383, 384, 385, 386, 387, 390, 391, 392, 395, 396, 397, 398, 399, 402, 403]
def ad6 : List Addr := [404, 407, 408, 409, 34, 54, 75, 96, 103, 124, 132, 139, 160, 156, 167, 174, 181, 188, 195, 203, 210, 215, 222, 229, 236]
def ad7 : List Addr := [241, 249, 243, 256, 263, 268, 275, 282, 287, 294, 301, 308, 315, 322, 29, 30, 31, 32, 33, 49, 50, 51, 52, 53, 70]
def ad8 : List Addr := [71, 72, 73, 74, 91, 92, 93, 94, 95, 98, 99, 100, 101, 102, 119, 120, 121, 122, 123, 131, 134, 135, 136, 137, 138]
def ad9 : List Addr := [157, 158, 159, 155, 162, 163, 164, 165, 166, 169, 170, 171, 172, 173, 176, 177, 178, 179, 180, 183, 184, 185, 186, 187, 190]
def ad10 : List Addr := [191, 192, 193, 194, 202, 205, 206, 207, 208, 209, 212, 213, 214, 217, 218, 219, 220, 221, 224, 225, 226, 227, 228, 231, 232]
def ad11 : List Addr := [233, 234, 235, 238, 239, 240, 244, 245, 246, 247, 248, 251, 252, 253, 254, 255, 258, 259, 260, 261, 262, 265, 266, 267, 270]
def ad12 : List Addr := [271, 272, 273, 274, 277, 278, 279, 280, 281, 284, 285, 286, 289, 290, 291, 292, 293, 296, 297, 298, 299, 300, 303, 304, 305]
def ad13 : List Addr := [306, 307, 310, 311, 312, 313, 314, 317, 318, 319, 320, 321, 2]
/-- the addresses that the names of the program reach -/
def asL : List Addr := ad0 ++ (ad1 ++ (ad2 ++ (ad3 ++ (ad4 ++ (ad5 ++ (ad6 ++ (ad7 ++ (ad8 ++ (ad9 ++ (ad10 ++ (ad11 ++ (ad12 ++ (ad13)))))))))))))
abbrev hk : PySem.W.Hook := hookW asL fns ex tfs
def obH (s : PySem.W.SharedT) : He.AlD := obsW asL fns ex tfs (HandSHeadRun.getT s)
theorem obH_eq (s : PySem.W.SharedT) : obH s = hk.obs s.abs := obsW_eq (HandSHeadRun.getT_eq s)
def loose0 : List PySem.Str := ["_wall", "UnknownRequest", "Record", "Desk", "AnswerObject", "Handle", "Broker", "_law_pool", "_law_draw", "_law_word", "_law_words", "_law_value", "_law_broker", "_law_source", "_law_call", "_law_alike", "_law_shown", "_law_ask_deed", "_law_answer_deed"]
abbrev loose : List PySem.Str := loose0
noncomputable abbrev endS (w : World) (os : OsState) : Option PySem.W.SharedT := HandSHeadRun.endF (HandSHeadRun.stepQ (HandSHeadRun.denQ HandSHeadRun.tabQ) RR.prog w) 12000 RR.prog w os
abbrev vwS : PySem.Program := PySem.W.view RR.prog [22]
abbrev frS (s : PySem.W.SharedT) : PySem.W.Frag := He.frT (HandSHeadRun.getT s) asL
theorem run1 (w : World) (os : OsState) : (endS w os).map (fun s => HandSHeadRun.looksF RR.prog (PySem.W.boot_heap w.params) s.abs) = some true := by kernel_rfl
theorem run2 (w : World) (os : OsState) : (endS w os).map (fun s => HandSHeadRun.seenQ vwS loose (PySem.importedModules RR.prog.main.body) (fun s => PySem.W.xlAt vwS [] s && PySem.W.recOk RR.records s) s.abs) = some (PySem.W.openGood vwS loose) := by kernel_rfl
theorem run3 (w : World) (os : OsState) : (endS w os).map (fun s => ((fxB fxs (frS s) && (fyB fys (frS s) && fzB fzs (frS s))) && (propB (frS s) (He.ga (frS s) "Broker") "is_idle" && tneB tfs (frS s))) && He.tabsB (HandSHeadRun.getT s) tfs (frS s)) = some true := by kernel_rfl
theorem run4 (w : World) (os : OsState) : (endS w os).map (fun s => (fns.all fun d => d.ok (frS s), fns.map fun d => He5.fnA (frS s) (d.at_ (frS s)))) = some (true, fns.map He5.DefA.val) := by kernel_rfl
theorem run (w : World) : HandSHeadRun.RunEq RR vwS hk obH 12000 loose w := by
  intro os
  have h1 := run1 w os
  have h2 := run2 w os
  have h3 := run3 w os
  have h4 := run4 w os
  show (endS w os).map (fun s => (HandSHeadRun.looksF RR.prog (PySem.W.boot_heap w.params) s.abs, HandSHeadRun.seenQ vwS loose (PySem.importedModules RR.prog.main.body) (fun s => PySem.W.xlAt vwS [] s && PySem.W.recOk RR.records s) s.abs, obH s)) = some (true, PySem.W.openGood vwS loose, He5.valA fns)
  generalize endS w os = e at h1 h2 h3 h4 ⊢
  cases e with
  | none => cases h1
  | some s =>
    have k1 := Option.some.inj h1
    have k2 := Option.some.inj h2
    have ke : (ex (frS s) && He.tabsB (HandSHeadRun.getT s) tfs (frS s)) = true := Option.some.inj h3
    have k4 := Prod.mk.inj (Option.some.inj h4)
    clear h1 h2 h3 h4
    have ko : obH s = He5.valA fns := by
      show ((ex (frS s) && He.tabsB (HandSHeadRun.getT s) tfs (frS s)) && fns.all (fun d => d.ok (frS s)), fns.map (fun d => He5.fnA (frS s) (d.at_ (frS s)))) = (true, fns.map He5.DefA.val)
      rw [ke, k4.1, k4.2]; rfl
    exact congrArg some (Prod.ext k1 (Prod.ext k2 ko))
section
open PySem PySem.W PySem.Calls PyProof.Rows
set_option maxHeartbeats 0 in
theorem early (hc : PySem.W.WalkO (view NL.RR.prog [22]) NL.loose (PySem.W.XL (view NL.RR.prog [22]) []) NL.hk.says NL.RR.toRowW (HandSHeadRun.topDef NL.RR.prog 22) [] (fun f vs => PySem.call f vs)) : PySem.Challenge.rw_nowlater_k76_asks_answered_later.Holds := by
  w_on; o_law
  refine HandSHeadRun.head_any (r := NL.RR) (q := view NL.RR.prog [22]) (H := NL.hk) (ob := NL.obH) (M := 12000) (loose := NL.loose) (d := HandSHeadRun.topDef NL.RR.prog 22) (kwd := []) NL.obH_eq
    (by kernel_rfl) (fun s => by kernel_rfl) NL.run (by kernel_rfl) (by kernel_rfl) (by kernel_rfl) (by rfl) (by first | assumption | decide +kernel) (by decide +kernel) ⟨rfl, rfl, rfl, rfl, rfl, by decide +kernel⟩ ?hw ?hc
  case hw => w_witness2
  case hc => exact hc
end
def sp_Record___init__ (K : PySem.W.Frag) : Sp := fun vs H Q _ => ∃ (a dx : Addr) (n : Nat) (rq : Str) (sent call : V), vs = [.ref a, .int n, .str rq, sent, call, .non] ∧ H a = some (.ins (He.ga K "Record") dx []) ∧ Q .non (upd H a (Rec.o K n ⟨a, dx, rq, sent, call, false⟩))
def sp_Desk___init__ (K : PySem.W.Frag) : Sp := fun vs H Q _ => ∃ (a dx : Addr) (l : Bool), vs = [.ref a, .bl l] ∧ H a = some (.ins (He.ga K "Desk") dx []) ∧ ∀ nm, Q .non (upd H a (Dsk.o K ⟨a, dx, nm, l, .non, false⟩))

abbrev ansO (K : PySem.W.Frag) (dx b r : Addr) : HO := .ins (He.ga K "AnswerObject") dx [("broker", .ref b), ("record", .ref r)]
abbrev hdlO (K : PySem.W.Frag) (dx b r : Addr) (rq : Str) (sent : V) : HO := .ins (He.ga K "Handle") dx [("broker", .ref b), ("record", .ref r), ("request", .str rq), ("sent", sent)]

def sp_AnswerObject___init__ (K : PySem.W.Frag) : Sp := fun vs H Q _ => ∃ (a dx b r : Addr), vs = [.ref a, .ref b, .ref r] ∧ H a = some (.ins (He.ga K "AnswerObject") dx []) ∧ Q .non (upd H a (ansO K dx b r))
def sp_Handle___init__ (K : PySem.W.Frag) : Sp := fun vs H Q _ => ∃ (a dx b : Addr) (n : Nat) (r : Rec), vs = [.ref a, .ref b, .ref r.a] ∧ H a = some (.ins (He.ga K "Handle") dx []) ∧ H r.a = some (r.o K n) ∧ r.a ≠ a ∧ Q .non (upd H a (hdlO K dx b r.a r.req r.sent))
def sp_Broker_is_idle (K : PySem.W.Frag) : Sp := fun vs H Q _ => ∃ (b : Addr) (S : BSt), vs = [.ref b] ∧ H b = some (S.o K) ∧ Q (.bl (decide (S.dp = 0))) H
def sp_Broker_is_current (K : PySem.W.Frag) : Sp := fun vs H Q _ => ∃ (b : Addr) (l : Option Obj) (S : BSt) (n : Nat) (r : Rec), vs = [.ref b, .ref r.a] ∧ BrkL K H b l S ∧ S.rs[n]? = some r ∧ Q (.bl (S.cur n r)) H
def sp_Broker_desk_of (K : PySem.W.Frag) : Sp := fun vs H Q _ => ∃ (b : Addr) (l : Option Obj) (S : BSt) (d : Dsk), vs = [.ref b, .str d.name] ∧ BrkL K H b l S ∧ d ∈ S.ds ∧ Q (.ref d.a) H
def sp_Broker_open_entries (K : PySem.W.Frag) : Sp := fun vs H Q _ => ∃ (b : Addr) (S : BSt), vs = [.ref b] ∧ Brk K H b S ∧ ∀ p H', H p = none → Ed [] H H' → H' p = some (.lst (S.es.map fun e => .ref e.tup)) → Q (.ref p) H'
def sp_Broker_open_entry (K : PySem.W.Frag) : Sp := fun vs H Q _ => ∃ (b : Addr) (S : BSt) (nm : Str), vs = [.ref b, .str nm] ∧ Brk K H b S ∧ ∀ H', Ed [] H H' → Q (match S.fe nm with | some e => .ref e.tup | none => .non) H'
def sp_Broker___contains__ (K : PySem.W.Frag) : Sp := fun vs H Q _ => ∃ (b : Addr) (S : BSt) (nm : Str), vs = [.ref b, .str nm] ∧ Brk K H b S ∧ ∀ H', Ed [] H H' → Q (.bl (S.has nm)) H'
def sp_Broker___len__ (K : PySem.W.Frag) : Sp := fun vs H Q _ => ∃ (b : Addr) (S : BSt), vs = [.ref b] ∧ Brk K H b S ∧ ∀ H', Ed [] H H' → Q (.int (S.es.length : Nat)) H'
def sp_Broker_close (K : PySem.W.Frag) : Sp := fun vs H Q _ => ∃ (b : Addr) (S : BSt) (n : Nat) (r : Rec), vs = [.ref b, .ref r.a] ∧ Brk K H b S ∧ H r.a = some (r.o K n) ∧ ∀ en H', H en = none → Eo H H' → (∀ a o, a ≠ b → H a = some o → H' a = some o) → Brk K H' b (S.closed r.req en) → Q .non H'
def sp_law_source__law_keep (K : PySem.W.Frag) : List V → Sp := fun ws vs H Q _ => ∃ (b held log : Addr) (nm : Str) (sent : V) (ans : Addr) (S : BSt) (xs ys : List V), ws = [.ref b, .ref held, .ref log, .str nm] ∧ vs = [sent, .ref ans] ∧ Brk K H b S ∧ H log = some (.lst xs) ∧ H held = some (.lst ys) ∧ log ≠ held ∧ S.nl ≠ log ∧ S.nl ≠ held ∧ xs.length < 10000 ∧ ys.length < 10000 ∧
  ∀ t H', H t = none → Ed [log, held] H H' → H' t = some (.tup [.str "source", .str nm, sent, .bl (S.has nm), .bl (decide (S.dp = 0))]) → H' log = some (.lst (xs ++ [.ref t])) → H' held = some (.lst (ys ++ [.ref ans])) → Q .non H'
def sp_law_call__law_told (K : PySem.W.Frag) : List V → Sp := fun ws vs H Q _ => ∃ (b log : Addr) (mark : V) (nm : Str) (sent got : V) (S : BSt) (xs : List V), ws = [.ref b, .ref log, mark, .str nm] ∧ vs = [sent, got] ∧ Brk K H b S ∧ H log = some (.lst xs) ∧ S.nl ≠ log ∧ xs.length < 10000 ∧
  ∀ t H', H t = none → Ed [log] H H' → H' t = some (.tup [.str "call", mark, sent, got, .bl (S.has nm), .bl (decide (S.dp = 0))]) → H' log = some (.lst (xs ++ [.ref t])) → Q .non H'
abbrev SV_source (K : PySem.W.Frag) : Addr → Sp := fun f => sCl f mf_law_source__law_keep ["_law_broker_here", "_law_held", "_law_log", "_law_name"] (sp_law_source__law_keep K)

abbrev SV_call (K : PySem.W.Frag) : Addr → Sp := fun f => sCl f mf_law_call__law_told ["_law_broker_here", "_law_log", "_law_mark", "_law_name"] (sp_law_call__law_told K)


abbrev BSt.setR (S : BSt) (n : Nat) (r : Rec) : BSt := { S with rs := S.rs.set n r }
abbrev BSt.setD (S : BSt) (n : Nat) (d : Dsk) : BSt := { S with ds := S.ds.set n d }

def sp_Broker_waiting_entries (K : PySem.W.Frag) : Sp := fun vs H Q _ => ∃ (b : Addr) (S : BSt), vs = [.ref b] ∧ Brk K H b S ∧ (∀ e ∈ S.es, e.ws = []) ∧ ∀ p H', Ed [] H H' → H p = none → H' p = some (.lst []) → Q (.ref p) H'
def sp_Broker_connect (K : PySem.W.Frag) : Sp := fun vs H Q _ => ∃ (b : Addr) (S : BSt) (i : Nat) (d : Dsk) (v : V), vs = [.ref b, .str d.name, v] ∧ Brk K H b S ∧ S.ds[i]? = some d ∧ ∀ H', Eo H H' → Brk K H' b (S.setD i { d with src := v }) → Q .non H'
def sp_Broker_call_source (K : PySem.W.Frag) : Sp := fun vs H Q _ => ∃ (b : Addr) (S : BSt) (n : Nat) (r : Rec) (g : Addr) (G : MF), vs = [.ref b, .ref g, .ref r.a] ∧ Brk K H b S ∧ S.rs[n]? = some r ∧ H g = some (FnM g G) ∧
  ∀ an dxa H1 E' Q', H an = none → Eo H H1 → H1 an = some (ansO K dxa b r.a) → Brk K H1 b { S.setR n { r with cg := true } with dp := S.dp + 1 } →
    (∀ v H2 S2 r2, Brk K H2 b S2 → S2.rs[n]? = some r2 → r2.a = r.a → r2.req = r.req → (∀ H3, Eo H2 H3 → Brk K H3 b { S2.setR n { r2 with cg := false } with dp := S.dp } → Q .non H3) → Q' v H2) → SV_source K g [r.sent, .ref an] H1 Q' E'
def sp_Broker_answer_at_once (K : PySem.W.Frag) : Sp := fun vs H Q _ => ∃ (b : Addr) (S : BSt) (n i : Nat) (r : Rec) (d : Dsk) (v : V) (g : Addr) (G : MF), vs = [.ref b, .ref d.a, .ref r.a, v] ∧ Brk K H b S ∧ S.rs[n]? = some r ∧ S.ds[i]? = some d ∧ r.call = .ref g ∧ H g = some (FnM g G) ∧
  ∀ en H1 E' Q', H en = none → Eo H H1 → Brk K H1 b { (S.closed r.req en).setD i { d with hand := true } with dp := S.dp + 1 } →
    (∀ v H2 S2 d2, Brk K H2 b S2 → S2.ds[i]? = some d2 → d2.a = d.a → d2.name = d.name → (∀ H3, Eo H2 H3 → Brk K H3 b { S2.setD i { d2 with hand := false } with dp := S.dp } → Q .non H3) → Q' v H2) → SV_call K g [r.sent, v] H1 Q' E'
def sp_Broker_answer_idle (K : PySem.W.Frag) : Sp := fun vs H Q _ => ∃ (b : Addr) (S : BSt) (n : Nat) (r : Rec) (v : V) (g : Addr) (G : MF), vs = [.ref b, .ref r.a, v] ∧ Brk K H b S ∧ S.rs[n]? = some r ∧ r.call = .ref g ∧ H g = some (FnM g G) ∧
  ∀ en H1 E' Q', H en = none → Eo H H1 → Brk K H1 b { S.closed r.req en with eb := .ref S.en, dp := S.dp + 1 } →
    (∀ v H2 S2, Brk K H2 b S2 → (∀ H3, Eo H2 H3 → Brk K H3 b { S2 with dp := S.dp } → Q .non H3) → Q' v H2) → SV_call K g [r.sent, v] H1 Q' E'

section
variable (K : PySem.W.Frag) (SV : Addr → Sp) (H : Hp) (b : Addr) (S : BSt) (n : Nat) (r : Rec) (v : V) (R : Hp → Prop)
/-- an answer that is taken amid the call of its source -/
def onceP (i : Nat) (d : Dsk) : Prop := ∃ g G, r.call = .ref g ∧ H g = some (FnM g G) ∧
  ∀ en H1 E' Q', H en = none → Eo H H1 → Brk K H1 b { (S.closed r.req en).setD i { d with hand := true } with dp := S.dp + 1 } →
    (∀ v H2 S2 d2, Brk K H2 b S2 → S2.ds[i]? = some d2 → d2.a = d.a → d2.name = d.name → (∀ H3, Eo H2 H3 → Brk K H3 b { S2.setD i { d2 with hand := false } with dp := S.dp } → R H3) → Q' v H2) → SV g [r.sent, v] H1 Q' E'
/-- an answer that comes while nothing runs -/
def idleP : Prop := ∃ g G, r.call = .ref g ∧ H g = some (FnM g G) ∧
  ∀ en H1 E' Q', H en = none → Eo H H1 → Brk K H1 b { S.closed r.req en with eb := .ref S.en, dp := S.dp + 1 } →
    (∀ v H2 S2, Brk K H2 b S2 → (∀ H3, Eo H2 H3 → Brk K H3 b { S2 with dp := S.dp } → R H3) → Q' v H2) → SV g [r.sent, v] H1 Q' E'
/-- an answer that waits -/
def waitP : Prop := ∀ H' tp wt en, H en = none → Eo H H' → Brk K H' b (S.wait r.req n tp r.a wt en v) → R H'
end

def sp_Broker_receive (K : PySem.W.Frag) : Sp := fun vs H Q _ => ∃ (b : Addr) (S : BSt) (n : Nat) (r : Rec) (v : V), vs = [.ref b, .ref r.a, v] ∧ Brk K H b S ∧ S.rs[n]? = some r ∧ (S.cur n r = false → Q (.bl false) H) ∧
  (∀ e i d, S.fe r.req = some e → e.num = n → S.ds[i]? = some d → d.name = r.req → (e.ws ≠ [] → Q (.bl false) H) ∧ (e.ws = [] →
    if (r.cg && (!d.late && !d.hand)) = true then onceP K (SV_call K) H b S r v (fun H3 => Q (.bl true) H3) i d else if S.dp = 0 then idleP K (SV_call K) H b S r v (fun H3 => Q (.bl true) H3) else waitP K H b S n r v fun H3 => Q (.bl true) H3))
def sp_AnswerObject___call__ (K : PySem.W.Frag) : Sp := fun vs H Q E => ∃ (a dx b ra : Addr) (v : V), vs = [.ref a, v] ∧ H a = some (ansO K dx b ra) ∧ (∃ S, H b = some (BSt.o K S)) ∧ sp_Broker_receive K [.ref b, .ref ra, v] H Q fun _ _ _ => False

section
variable (K : PySem.W.Frag) (SV : Addr → Sp) (H : Hp) (b : Addr) (S : BSt) (d : Dsk) (sent call : V) (R : V → Hp → Prop)
/-- a request is asked: what stands when the source is called, and what is given back -/
def askP : Prop := ∀ (r : Rec) (tp wt en : Addr) (H1 : Hp), r.req = d.name → r.sent = sent → r.call = call → r.cg = false → H r.a = none → H en = none → Eo H H1 → Brk K H1 b (S.asked r tp wt en) →
  (d.src = .non → ∀ hd dx H2, Ed [] H1 H2 → H2 hd = some (hdlO K dx b r.a d.name sent) → R (.ref hd) H2) ∧
  (∀ g, d.src = .ref g → ∀ an dxa H2 E' Q', H an = none → Eo H1 H2 → H2 an = some (ansO K dxa b r.a) → Brk K H2 b { (S.asked r tp wt en).setR S.rs.length { r with cg := true } with dp := S.dp + 1 } →
    (∀ v H3 S3 r3, Brk K H3 b S3 → S3.rs[S.rs.length]? = some r3 → r3.a = r.a → r3.req = r.req → r3.sent = r.sent → (∀ hd dx H4, Eo H3 H4 → Brk K H4 b { S3.setR S.rs.length { r3 with cg := false } with dp := S.dp } → H4 hd = some (hdlO K dx b r.a d.name sent) → R (.ref hd) H4) → Q' v H3) → SV g [sent, .ref an] H2 Q' E')
end

def sp_Broker_make_ask (K : PySem.W.Frag) : Sp := fun vs H Q _ => ∃ (b : Addr) (S : BSt) (i : Nat) (d : Dsk) (sent call : V) (rp : Bool), vs = [.ref b, .non, .str d.name, sent, call, .bl rp] ∧ Brk K H b S ∧ S.ds[i]? = some d ∧ (d.src = .non ∨ ∃ g G, d.src = .ref g ∧ H g = some (FnM g G)) ∧
  ((S.has d.name && !rp) = true → ∀ H', Ed [] H H' → Q .non H') ∧ ((S.has d.name && !rp) = false → askP K (SV_source K) H b S d sent call Q)
def sp_Broker_ask (K : PySem.W.Frag) : Sp := fun vs H Q _ => ∃ (b : Addr) (S : BSt) (nm : Str) (sent call : V) (rp : Bool), vs = [.ref b, .str nm, sent, call, .bl rp] ∧ H b = some (S.o K) ∧ sp_Broker_make_ask K [.ref b, .non, .str nm, sent, call, .bl rp] H Q fun _ _ _ => False
def sp_Broker_waiting (K : PySem.W.Frag) : SpG := fun vs H Q E =>  ∃ (b : Addr) (S : BSt), vs = [.ref b] ∧ Brk K H b S ∧ (∀ e ∈ S.es, e.ws = []) ∧ ∀ H', Ed [] H H' → Q [] H'
def sp_Broker___init__ (K : PySem.W.Frag) : Sp := fun vs H Q _ => ∃ (a dx l p : Addr) (ns lt : List Str), vs = [.ref a, .ref l, .ref p] ∧ H a = some (.ins (He.ga K "Broker") dx []) ∧ H l = some (.lst (lt.map V.str)) ∧ H p = some (.tup (ns.map V.str)) ∧ (∀ x ∈ lt, x ∈ ns) ∧ ns.Nodup ∧ ns.length ≤ 1000 ∧
  ∀ H' S, Ed [a] H H' → Brk K H' a S → S.ns = ns → (∀ d ∈ S.ds, d.late = decide (d.name ∈ lt) ∧ d.src = .non ∧ d.hand = false) → S.es = [] → S.rs = [] → S.dp = 0 → H S.nl = none → Q .non H'
section
/-- the great numbers without the first where it is spent -/
def grt : List Int → List Int
  | g :: r => if g ≤ 1 then r else g :: r
  | [] => []
def seed1 (sd ct : Int) : Int := (sd * 69621 + 2 * ct + 7) % 2147483647
def seed2 (ss : List Int) (sd ct : Int) : Int := match ss with
  | [] => seed1 sd ct
  | _ => seed1 sd ct + ss.getD (ct % ss.length).toNat 0 / (1 + ct / ss.length % 5)
def seed3 (ss : List Int) (sd ct : Int) : Int := (seed2 ss sd ct * 48271 + 11) % 2147483629
/-- the number drawn, the great numbers and the seed behind it -/
def drawR (gs ss : List Int) (sd ct m : Int) : Int × List Int × Int := match grt gs with
  | g :: r => (g % m, g / m :: r, sd)
  | [] => (seed3 ss sd ct / 8 % m, [], seed3 ss sd ct)
/-- the pool as it lies in the heap -/
structure PoolH (H : Hp) (a g s : Addr) (gs ss : List Int) (sd ct : Int) : Prop where
  ha : H a = some (.lst [.ref g, .ref s, .int sd, .int ct])
  hg : H g = some (.lst (gs.map V.int))
  hs : H s = some (.lst (ss.map V.int))
  nag : a ≠ g
  nas : a ≠ s
  ngs : g ≠ s
theorem PoolH.upA {H : Hp} {a g s : Addr} {gs ss : List Int} {sd ct sd' ct' : Int} (P : PoolH H a g s gs ss sd ct) : PoolH (upd H a (.lst [.ref g, .ref s, .int sd', .int ct'])) a g s gs ss sd' ct' :=
  ⟨upd_same, by rw [upd_ne (fun z => P.nag z.symm)]; exact P.hg, by rw [upd_ne (fun z => P.nas z.symm)]; exact P.hs, P.nag, P.nas, P.ngs⟩
theorem PoolH.upG {H : Hp} {a g s : Addr} {gs ss gs' : List Int} {sd ct : Int} (P : PoolH H a g s gs ss sd ct) : PoolH (upd H g (.lst (gs'.map V.int))) a g s gs' ss sd ct :=
  ⟨by rw [upd_ne P.nag]; exact P.ha, upd_same, by rw [upd_ne (fun z => P.ngs z.symm)]; exact P.hs, P.nag, P.nas, P.ngs⟩
theorem at_ints {l : List Int} {k : Int} (h0 : 0 ≤ k) (h1 : k < l.length) : atI (l.map V.int) k = some (.int (l.getD k.toNat 0)) := by
  obtain ⟨n, rfl⟩ := Int.eq_ofNat_of_zero_le h0
  have hn : n < l.length := by omega
  refine atI_of (i := n) ?_
  rw [List.getElem?_map, List.getElem?_eq_getElem hn, Int.toNat_natCast, List.getD_eq_getElem?_getD, List.getElem?_eq_getElem hn]
  rfl
end

section
theorem grt_len {gs : List Int} : (grt gs).length ≤ gs.length := by
  unfold grt
  split
  · split
    · simp
    · exact Nat.le_refl _
  · exact Nat.le_refl _
theorem drawR_ok {gs ss : List Int} {sd ct m : Int} (hm : 0 < m) : 0 ≤ (drawR gs ss sd ct m).1 ∧ (drawR gs ss sd ct m).1 < m ∧ (drawR gs ss sd ct m).2.1.length ≤ gs.length := by
  have h := grt_len (gs := gs)
  unfold drawR
  split
  · rename_i g r e
    rw [e] at h
    exact ⟨Int.emod_nonneg _ (by omega), Int.emod_lt_of_pos _ hm, h⟩
  · exact ⟨Int.emod_nonneg _ (by omega), Int.emod_lt_of_pos _ hm, Nat.zero_le _⟩
/-- a pool, its numbers whatever they are -/
def Pool (H : Hp) (a g s : Addr) : Prop := ∃ gs ss sd ct, PoolH H a g s gs ss sd ct ∧ 0 ≤ ct ∧ gs.length < 1000 ∧ ss.length < 1000
variable {H H' : Hp} {a g s : Addr}
theorem Pool.keep (P : Pool H a g s) (k : ∀ b xs, b = a ∨ b = g ∨ b = s → H b = some (.lst xs) → H' b = some (.lst xs)) : Pool H' a g s := by
  obtain ⟨gs, ss, sd, ct, p, h⟩ := P
  exact ⟨gs, ss, sd, ct, ⟨k _ _ (.inl rfl) p.ha, k _ _ (.inr (.inl rfl)) p.hg, k _ _ (.inr (.inr rfl)) p.hs, p.nag, p.nas, p.ngs⟩, h⟩
theorem Pool.ed {U : List Addr} (P : Pool H a g s) (e : Ed U H H') (h1 : a ∉ U) (h2 : g ∉ U) (h3 : s ∉ U) : Pool H' a g s := P.keep fun b xs z q => by
  rcases z with rfl | rfl | rfl
  · exact e.get h1 q
  · exact e.get h2 q
  · exact e.get h3 q
theorem Pool.ed0 (P : Pool H a g s) (e : Ed [] H H') : Pool H' a g s := P.ed e List.not_mem_nil List.not_mem_nil List.not_mem_nil
theorem Pool.eo (P : Pool H a g s) (e : Eo H H') : Pool H' a g s := P.keep fun b xs _ q => e.get q
theorem Pool.alive (P : Pool H a g s) : H a ≠ none ∧ H g ≠ none ∧ H s ≠ none := by
  obtain ⟨gs, ss, sd, ct, p, _⟩ := P
  rw [p.ha, p.hg, p.hs]
  exact ⟨(by simp), (by simp), by simp⟩
end

theorem log_lt0 {n : Nat} (h : n < 1000000) : n.log2 < 9000 := by
  by_cases hz : n = 0
  · subst hz; decide
  · exact Nat.lt_of_lt_of_le ((Nat.log2_lt hz).mpr (Nat.lt_of_lt_of_le h (by decide : 1000000 ≤ 2 ^ 20))) (by decide)

def sp_law_draw (K : PySem.W.Frag) : Sp := fun vs H Q _ => ∃ (a g s : Addr) (gs ss : List Int) (sd ct m : Int), vs = [.ref a, .int m] ∧ PoolH H a g s gs ss sd ct ∧ 0 < m ∧ m.natAbs.log2 < 200 ∧ 0 ≤ ct ∧ gs.length < 1000 ∧ ss.length < 1000 ∧
  ∀ H', PoolH H' a g s (drawR gs ss sd ct m).2.1 ss (drawR gs ss sd ct m).2.2 (ct + 1) → (∀ b, b ≠ a → b ≠ g → b ≠ s → H' b = H b) → Q (.int (drawR gs ss sd ct m).1) H'

theorem call_draw {K : PySem.W.Frag} {H : Hp} {a g s : Addr} {m : Int} {Q : VK} {E : XK} (P : Pool H a g s) (hm : 0 < m) (hm2 : m.natAbs.log2 < 200) (k : ∀ d H', 0 ≤ d → d < m → Ed [a, g] H H' → Pool H' a g s → Q (.int d) H') : sp_law_draw K [.ref a, .int m] H Q E := by
  obtain ⟨gs, ss, sd, ct, p, h1, h2, h3⟩ := P
  refine ⟨a, g, s, gs, ss, sd, ct, m, rfl, p, hm, hm2, h1, h2, h3, fun H' p' o' => ?_⟩
  obtain ⟨d1, d2, d3⟩ := drawR_ok (gs := gs) (ss := ss) (sd := sd) (ct := ct) hm
  refine k _ H' d1 d2 ⟨fun b o n q => ?_, fun b q => ?_⟩ ⟨_, _, _, _, p', by omega, by omega, h3⟩
  · have n1 : b ≠ a := fun z => n (by rw [z]; simp)
    have n2 : b ≠ g := fun z => n (by rw [z]; simp)
    by_cases hs : b = s
    · rw [hs, p.hs] at q
      rw [hs, p'.hs]; exact q
    · rw [o' b n1 n2 hs]; exact q
  · by_cases h1 : b = a
    · rw [h1, p'.ha]; simp
    · by_cases h2 : b = g
      · rw [h2, p'.hg]; simp
      · by_cases h3 : b = s
        · rw [h3, p'.hs]; simp
        · rw [o' b h1 h2 h3]; exact q


/-- what _law_value draws -/
def VOk (d : PyData) : Prop := ∃ i : Int, i.natAbs ≤ 10 ^ 30 ∧ (d = .none ∨ d = .bool (decide (i ≥ 0)) ∨ d = .tuple [.int i, .str "a"] ∨ d = .list [.int i, .none] ∨ d = .int i ∨ ∃ n : Nat, n ≤ 3 ∧ d = .str (cutS "xyz" none (some (n : Int))))

def sp_law_value (K : PySem.W.Frag) : Sp := fun vs H Q _ => ∃ (W : List Addr) (a g s : Addr), vs = [.ref a] ∧ Pool H a g s ∧ Wl W H ∧ ∀ v d H', Ed [a, g] H H' → Pool H' a g s → Df W H' v d → VOk d → Q v H'
section
def lets : Str := "abcdefghijklmnopqrstuvwxyz"
def Lw (t : Str) : Prop := ∀ c ∈ t.cps.toList, 97 ≤ c ∧ c ≤ 122
theorem lets_of : ∀ c ∈ lets.cps.toList, 97 ≤ c ∧ c ≤ 122 := by decide +kernel
theorem len_cps {t : Str} : t.cps.toList.length = t.length := by
  show t.cps.toList.length = t.cps.size
  simp
theorem cut_lo {t : Str} {j : Nat} : (cutS t none (some (j : Nat))).cps.toList = t.cps.toList.take j := by
  unfold cutS
  simp only [HT.sIx_nat, HT.sIx_none, List.drop_zero, Nat.sub_zero]
  rw [← len_cps, ← List.take_take]
  rw [List.take_of_length_le (Nat.le_refl _)]
theorem cut_hi {t : Str} {j : Nat} : (cutS t (some (j : Nat)) none).cps.toList = t.cps.toList.drop j := by
  unfold cutS
  simp only [HT.sIx_nat, HT.sIx_none]
  rw [← len_cps]
  refine (List.take_of_length_le (by rw [List.length_drop]; exact Nat.le_refl _)).trans ?_
  by_cases h : j ≤ t.cps.toList.length
  · rw [Nat.min_eq_left h]
  · rw [Nat.min_eq_right (by omega), List.drop_of_length_le (Nat.le_refl _), List.drop_of_length_le (by omega)]
theorem cut_m1 {t : Str} : (cutS t none (some (-1))).cps.toList = t.cps.toList.take (t.length - 1) := by
  unfold cutS
  have e : HT.sIx t.length t.length (some (-1)) = t.length - 1 := by
    show ((-1 : Int) + (t.length : Int)).toNat = _
    omega
  rw [e]
  rfl
theorem join_txt (a : Str) (xs : List Str) : Txt.join a xs = Str.join a xs := StrLaws.glued_eq_join _ _
theorem join_cons2 (a x y : Str) (r : List Str) : Str.join a (x :: y :: r) = x ++ a ++ Str.join a (y :: r) := rfl
def Lt (s : Str) : Prop := ∃ c, s = ⟨#[c]⟩ ∧ 97 ≤ c ∧ c ≤ 122
theorem join_lt : ∀ {ss : List Str}, (∀ s ∈ ss, Lt s) → Lw (Str.join "" ss) ∧ (Str.join "" ss).length = ss.length
  | [], _ => ⟨fun c hc => by simp [Str.join, Str.empty] at hc, rfl⟩
  | [x], h => by
    obtain ⟨c, rfl, h1, h2⟩ := h x (List.mem_cons_self ..)
    exact ⟨fun d hd => by simp [Str.join] at hd; omega, rfl⟩
  | x :: y :: r, h => by
    obtain ⟨c, rfl, h1, h2⟩ := h x (List.mem_cons_self ..)
    obtain ⟨k1, k2⟩ := join_lt (ss := y :: r) fun s hs => h s (List.mem_cons_of_mem _ hs)
    rw [join_cons2]
    refine ⟨fun d hd => ?_, ?_⟩
    · rw [Str.cps_append, Str.cps_append] at hd
      simp only [Array.toList_append, List.mem_append] at hd
      rcases hd with (hd | hd) | hd
      · simp at hd; omega
      · cases hd
      · exact k1 d hd
    · rw [Str.length_append, Str.length_append, k2]
      show 1 + 0 + (y :: r).length = _
      simp only [List.length_cons]
      omega
theorem lt_sum {us : List Str} (h : ∀ s ∈ us, Lt s) (hl : us.length ≤ 100) : (us.map (·.length)).sum + us.length * ("" : Str).length ≤ 16777216 := by
  have : (us.map (·.length)).sum ≤ us.length := by
    clear hl
    induction us with
    | nil => simp
    | cons x r ih =>
      obtain ⟨c, rfl, _⟩ := h x (List.mem_cons_self ..)
      have := ih fun s hs => h s (List.mem_cons_of_mem _ hs)
      have e : (⟨#[c]⟩ : Str).length = 1 := rfl
      simp only [List.map_cons, List.sum_cons, List.length_cons, e]
      omega
  show _ + _ * 0 ≤ 16777216
  omega
theorem lets_at : ∀ k, k < 26 → atI ("abcdefghijklmnopqrstuvwxyz" : Str).cps.toList ((k : Nat) : Int) = some (97 + k) := by decide +kernel
def wdx (w : Str) (c : Nat) : Str := cutS w none (some (-1)) ++ ⟨#[c]⟩
theorem wdx_cps {w : Str} {c : Nat} : (wdx w c).cps.toList = w.cps.toList.take (w.length - 1) ++ [c] := by
  unfold wdx
  rw [Str.cps_append, Array.toList_append, cut_m1]
theorem wdx_ok {w : Str} {c : Nat} (h : Lw w) (h1 : 1 ≤ w.length) (hc : 97 ≤ c ∧ c ≤ 122) : Lw (wdx w c) ∧ (wdx w c).length = w.length := by
  refine ⟨fun d hd => ?_, ?_⟩
  · rw [wdx_cps] at hd
    rcases List.mem_append.mp hd with hd | hd
    · exact h d (List.mem_of_mem_take hd)
    · rw [List.mem_singleton.mp hd]; exact hc
  · rw [← len_cps, wdx_cps, List.length_append, List.length_take, len_cps]
    show min (w.length - 1) w.length + 1 = _
    omega
theorem wdx_ne {w : Str} {c d : Nat} (h : c ≠ d) : wdx w c ≠ wdx w d := fun z => by
  have := congrArg (fun s : Str => s.cps.toList) z
  simp only [wdx_cps] at this
  have := List.append_cancel_left this
  simp at this
  exact h this
theorem at_last {α : Type} {l : List α} {x : α} : atI (l ++ [x]) (-1) = some x := by
  unfold atI ixN
  have h1 : ¬ (0 : Int) ≤ -1 := by decide
  rw [if_neg h1, List.length_append]
  have h2 : -(((l.length + [x].length : Nat)) : Int) ≤ -1 := by simp only [List.length_cons, List.length_nil]; omega
  rw [if_pos h2]
  show (l ++ [x])[((-1 : Int) + ((l.length + 1 : Nat) : Int)).toNat]? = some x
  rw [show ((-1 : Int) + ((l.length + 1 : Nat) : Int)).toNat = l.length by omega]
  simp
theorem swap_ok {w : Str} {j c : Nat} (h : Lw w) (h1 : 1 ≤ w.length) (hj : j < w.length) (hc : 97 ≤ c ∧ c ≤ 122) : Lw (cutS w none (some (j : Nat)) ++ ⟨#[c]⟩ ++ cutS w (some ((j + 1 : Nat) : Int)) none) ∧ (cutS w none (some (j : Nat)) ++ ⟨#[c]⟩ ++ cutS w (some ((j + 1 : Nat) : Int)) none).length = w.length := by
  have e : (cutS w none (some (j : Nat)) ++ ⟨#[c]⟩ ++ cutS w (some ((j + 1 : Nat) : Int)) none).cps.toList = w.cps.toList.take j ++ [c] ++ w.cps.toList.drop (j + 1) := by
    rw [Str.cps_append, Str.cps_append, Array.toList_append, Array.toList_append, cut_lo, cut_hi]
  refine ⟨fun d hd => ?_, ?_⟩
  · rw [e] at hd
    rcases List.mem_append.mp hd with hd | hd
    · rcases List.mem_append.mp hd with hd | hd
      · exact h d (List.mem_of_mem_take hd)
      · rw [List.mem_singleton.mp hd]; exact hc
    · exact h d (List.mem_of_mem_drop hd)
  · rw [← len_cps, e, List.length_append, List.length_append, List.length_take, List.length_drop, len_cps]
    show min j w.length + 1 + (w.length - (j + 1)) = _
    omega

/-- words that are drawn -/
def WOk (w : Str) : Prop := Lw w ∧ 1 ≤ w.length ∧ w.length ≤ 8
theorem wdx_some {w : Str} {ws : List Str} (hl : ws.length ≤ 10) : ∃ c ∈ lets.cps.toList, wdx w c ∉ ws := by
  refine Classical.byContradiction fun h => ?_
  have h1 : ∀ c ∈ lets.cps.toList, wdx w c ∈ ws := fun c hc => Classical.byContradiction fun z => h ⟨c, hc, z⟩
  have nd : (lets.cps.toList.map (wdx w)).Nodup := by
    rw [List.nodup_iff_pairwise_ne, List.pairwise_map]
    have : lets.cps.toList.Nodup := by decide +kernel
    exact (List.nodup_iff_pairwise_ne.mp this).imp fun hab => wdx_ne hab
  have := nd_len nd fun x hx => by
    obtain ⟨c, hc, rfl⟩ := List.mem_map.mp hx
    exact h1 c hc
  rw [List.length_map] at this
  have h26 : lets.cps.toList.length = 26 := by decide +kernel
  omega
end

def sp_law_word (K : PySem.W.Frag) : Sp := fun vs H Q _ => ∃ (a g s t : Addr) (ws : List Str), vs = [.ref a, .ref t] ∧ Pool H a g s ∧ H t = some (.lst (ws.map V.str)) ∧ t ≠ a ∧ t ≠ g ∧ ws.length ≤ 10 ∧ (∀ w ∈ ws, WOk w) ∧ ∀ (w : Str) (H' : Hp), Ed [a, g] H H' → Pool H' a g s → WOk w → w ∉ ws → Q (.str w) H'
def sp_law_words (K : PySem.W.Frag) : Sp := fun vs H Q _ => ∃ (a g s : Addr) (n : Nat), vs = [.ref a, .int n] ∧ Pool H a g s ∧ n ≤ 10 ∧ ∀ (p : Addr) (ws : List Str) (H' : Hp), H p = none → Ed [a, g] H H' → Pool H' a g s → H' p = some (.lst (ws.map V.str)) → ws.length = n → (∀ w ∈ ws, WOk w) → ws.Nodup → Q (.ref p) H'
def sp_law_pool (K : PySem.W.Frag) : Sp := fun vs H Q _ => ∃ (t : Addr) (ns : List Int), vs = [.ref t] ∧ SqL K H t (ns.map V.int) ∧ ns.length ≤ 63 ∧ ∀ a g s H', H a = none → H g = none → H s = none → Ed [] H H' → Pool H' a g s → Q (.ref a) H'
def sp_law_broker (K : PySem.W.Frag) : Sp := fun vs H Q _ => ∃ (l m : Addr) (ns lt : List Str), vs = [.ref l, .ref m] ∧ H l = some (.lst (ns.map V.str)) ∧ H m = some (.lst (lt.map V.str)) ∧ 1 ≤ ns.length ∧ ns.length ≤ 3 ∧ (∀ x ∈ lt, x ∈ ns) ∧ ns.Nodup ∧
  ∀ b H' S, H b = none → Ed [] H H' → Brk K H' b S → S.ns = ns → (∀ d ∈ S.ds, d.src = .non ∧ d.hand = false) → S.es = [] → S.rs = [] → S.dp = 0 → H S.nl = none → Q (.ref b) H'
def sp_law_alike (K : PySem.W.Frag) : Sp := fun vs H Q _ => ∃ (W : List Addr) (p q : Addr) (ds es : List PyData), vs = [.ref p, .ref q] ∧ Df W H (.ref p) (.list ds) ∧ Df W H (.ref q) (.list es) ∧ ds = es ∧ (PyData.list ds).showable = true ∧ (PyData.list ds).hasDict = false ∧ (PyData.list ds).depth ≤ 60 ∧ (PyData.list ds).shown.length ≤ sizeLine ∧ noD (.list ds) = true ∧ Q (.bl true) H

/-- how many names are open -/
theorem es_count {K : PySem.W.Frag} {H : Hp} {b : Addr} {l : Option Obj} {S : BSt} (B : BrkL K H b l S) : S.es.length = (S.ns.filter S.has).length := by
  have hin : ∀ nm, S.has nm = true ↔ nm ∈ S.es.map (·.name) := fun nm => by
    unfold BSt.has
    constructor
    · intro h
      obtain ⟨e, he⟩ := Option.isSome_iff_exists.mp h
      obtain ⟨h1, h2⟩ := fe_mem he
      exact List.mem_map.mpr ⟨e, h1, h2⟩
    · intro h
      obtain ⟨e, he, hn⟩ := List.mem_map.mp h
      rw [← hn, fe_at B.ee he]; rfl
  have h1 := nd_len B.ee (ys := S.ns.filter S.has) fun x hx => List.mem_filter.mpr ⟨by
    obtain ⟨e, he, rfl⟩ := List.mem_map.mp hx
    exact B.en e he, (hin x).mpr hx⟩
  have h2 := nd_len (B.nd.sublist List.filter_sublist) (ys := S.es.map (·.name)) fun x hx => (hin x).mp (List.mem_filter.mp hx).2
  rw [List.length_map] at h1 h2
  omega

def sp_law_shown (K : PySem.W.Frag) : Sp := fun vs H Q _ => ∃ (b n o : Addr) (S : BSt) (os : List Int), vs = [.ref b, .ref n, .ref o] ∧ Brk K H b S ∧ H n = some (.lst (S.ns.map V.str)) ∧ H o = some (.lst (os.map V.int)) ∧ os.length = S.ns.length ∧ (∀ (i : Nat) (nm : Str) (z : Int), S.ns[i]? = some nm → os[i]? = some z → S.has nm = decide (z ≥ 0)) ∧ S.dp = 0 ∧ (∀ e ∈ S.es, e.ws = []) ∧ ∀ H', Ed [] H H' → Q (.bl true) H'

/-- the tables of nested code: each maker has one, all its code objects are of the same name -/
def TT (K : PySem.W.Frag) : List NdefX.NTab := [((He.cT K ("_law_source", none)).2, (fun _ _ => "_law_source.<locals>._law_keep" : Nat → Nat → Str)), ((He.cT K ("_law_call", none)).2, (fun _ _ => "_law_call.<locals>._law_told" : Nat → Nat → Str))]

def sp_law_source (K : PySem.W.Frag) : Sp := sMk (TT K) 4 [0, 3, 2, 1] ["_law_broker_here", "_law_held", "_law_log", "_law_name"] mf_law_source__law_keep
def sp_law_call (K : PySem.W.Frag) : Sp := sMk (TT K) 4 [0, 2, 3, 1] ["_law_broker_here", "_law_log", "_law_mark", "_law_name"] mf_law_call__law_told

section
open LamX NdefX
/-! ### calls of the law's own sources and calls -/
abbrev KeepC (H : Hp) (f b held log : Addr) (nm : Str) : Prop := ∃ cl c, Clo H f (mf_law_source__law_keep cl c) ["_law_broker_here", "_law_held", "_law_log", "_law_name"] [.ref b, .ref held, .ref log, .str nm]
abbrev ToldC (H : Hp) (f b log : Addr) (mark : V) (nm : Str) : Prop := ∃ cl c, Clo H f (mf_law_call__law_told cl c) ["_law_broker_here", "_law_log", "_law_mark", "_law_name"] [.ref b, .ref log, mark, .str nm]
section
variable {K : PySem.W.Frag} {H H' H0 H2 : Hp} {b f held log c a : Addr} {U U' W : List Addr} {S : BSt} {nm : Str} {xs ys : List V} {Q : VK} {E : XK} {o : HO}
theorem vac_ne {cs : List Addr} (v : Vac cs H') (h : H' a = some o) : a ∉ cs := fun z => by rw [v a z] at h; cases h
theorem src_call {sent : V} {ans : Addr} (C : KeepC H f b held log nm) (B : Brk K H b S) (hl : H log = some (.lst xs)) (hh : H held = some (.lst ys)) (ne : log ≠ held) (n1 : S.nl ≠ log) (n2 : S.nl ≠ held) (z1 : xs.length < 10000) (z2 : ys.length < 10000)
    (k : ∀ t H', H t = none → Ed [log, held] H H' → H' t = some (.tup [.str "source", .str nm, sent, .bl (S.has nm), .bl (decide (S.dp = 0))]) → H' log = some (.lst (xs ++ [.ref t])) → H' held = some (.lst (ys ++ [.ref ans])) → Q .non H') :
    SV_source K f [sent, .ref ans] H Q E := by
  obtain ⟨cl, c, C⟩ := C
  have m := Mv.hid C.tld
  refine ⟨cl, c, _, C, b, held, log, nm, sent, ans, S, xs, ys, rfl, rfl, B.mv m, m _ _ lst_ncel hl, m _ _ lst_ncel hh, ne, n1, n2, z1, z2, fun t H' ht e h1 h2 h3 v => ?_⟩
  have et := vac_ne v h1
  exact k t _ (by rw [hid_out et] at ht; exact ht) (ed_put e) (put_sub v h1) (put_sub v h2) (put_sub v h3)
theorem told_call {sent got mark : V} (C : ToldC H f b log mark nm) (B : Brk K H b S) (hl : H log = some (.lst xs)) (n1 : S.nl ≠ log) (z1 : xs.length < 10000)
    (k : ∀ t H', H t = none → Ed [log] H H' → H' t = some (.tup [.str "call", mark, sent, got, .bl (S.has nm), .bl (decide (S.dp = 0))]) → H' log = some (.lst (xs ++ [.ref t])) → Q .non H') :
    SV_call K f [sent, got] H Q E := by
  obtain ⟨cl, c, C⟩ := C
  have m := Mv.hid C.tld
  refine ⟨cl, c, _, C, b, log, mark, nm, sent, got, S, xs, rfl, rfl, B.mv m, m _ _ lst_ncel hl, n1, z1, fun t H' ht e h1 h2 v => ?_⟩
  have et := vac_ne v h1
  exact k t _ (by rw [hid_out et] at ht; exact ht) (ed_put e) (put_sub v h1) (put_sub v h2)
/-! ### edges -/
/-- all but brokers, desks, records stays, the lists U aside -/
def Ek (U : List Addr) (H H' : Hp) : Prop := (∀ a o, a ∉ U → nb o = true → H a = some o → H' a = some o) ∧ ∀ a, H a ≠ none → H' a ≠ none
def nt : HO → Bool
  | .tbl _ => false
  | o => nb o
/-- the same, tables aside too -/
def Et (U : List Addr) (H H' : Hp) : Prop := (∀ a o, a ∉ U → nt o = true → H a = some o → H' a = some o) ∧ ∀ a, H a ≠ none → H' a ≠ none
def Lst (U : List Addr) (H : Hp) : Prop := ∀ a ∈ U, ∃ xs, H a = some (.lst xs)
theorem nt_nb (h : nt o = true) : nb o = true := by cases o <;> first | exact h | cases h
theorem Ek.ed (e : Ed U H H') : Ek U H H' := ⟨fun a o n _ h => e.1 a o n h, e.2⟩
theorem Ek.eo (e : Eo H H') : Ek U H H' := ⟨fun a o _ m h => e.1 a o m h, e.2⟩
theorem Ek.tr (e : Ek U H0 H) (e2 : Ek U' H H') (hv : ∀ a ∈ U', a ∈ U ∨ H0 a = none) : Ek U H0 H' := ⟨fun a o n m h => e2.1 a o (fun z => (hv a z).elim n fun q => by rw [h] at q; cases q) m (e.1 a o n m h), fun a h => e2.2 a (e.2 a h)⟩
theorem Ek.weak (e : Ek U H H') (hv : ∀ a ∈ U, a ∈ U') : Ek U' H H' := ⟨fun a o n m h => e.1 a o (fun z => n (hv a z)) m h, e.2⟩
theorem Ek.get (e : Ek U H H') (n : a ∉ U) (h : H a = some o) (m : nb o = true := by rfl) : H' a = some o := e.1 a o n m h
theorem Ek.free (e : Ek U H H') (h : H' a = none) : H a = none := by
  cases q : H a with
  | none => rfl
  | some o => exact absurd h (e.2 a (by rw [q]; simp))
theorem Ek.et (e : Ek U H H') : Et U H H' := ⟨fun a o n m h => e.1 a o n (nt_nb m) h, e.2⟩
theorem Et.weak (e : Et U H H') (hv : ∀ a ∈ U, a ∈ U') : Et U' H H' := ⟨fun a o n m h => e.1 a o (fun z => n (hv a z)) m h, e.2⟩
theorem Et.ext (e : ExtN H H') (l : ∀ b, H' b = none → H b = none) : Et [] H H' := ⟨fun a o _ m h => e a o h (fun ps z => by subst z; cases m), fun a h z => h (l a z)⟩
theorem Et.get (e : Et U H H') (n : a ∉ U) (h : H a = some o) (m : nt o = true := by rfl) : H' a = some o := e.1 a o n m h
theorem Clo.et {F : MF} {fr : List Str} {ws : List V} (C : Clo H f F fr ws) (e : Et U H H') (hU : Lst U H) : Clo H' f F fr ws := C.mv fun a o h e1 => by
  have key : nt o = true ∧ ∀ xs, o ≠ .lst xs := by
    rcases h with rfl | rfl | h
    · rw [C.fn] at e1; cases e1; exact ⟨rfl, fun _ z => nomatch z⟩
    · rw [C.co] at e1; cases e1; exact ⟨rfl, fun _ z => nomatch z⟩
    · obtain ⟨o', e2, _⟩ := C.told a h
      rw [e2] at e1; cases e1; exact ⟨rfl, fun _ z => nomatch z⟩
  exact e.1 a o (fun z => by obtain ⟨xs, q⟩ := hU a z; rw [e1] at q; exact key.2 xs (Option.some.inj q)) key.1 e1
theorem KeepC.et (C : KeepC H f b held log nm) (e : Et U H H') (hU : Lst U H) : KeepC H' f b held log nm := by
  obtain ⟨cl, c, C⟩ := C
  exact ⟨cl, c, C.et e hU⟩
theorem ToldC.et {mark : V} (C : ToldC H f b log mark nm) (e : Et U H H') (hU : Lst U H) : ToldC H' f b log mark nm := by
  obtain ⟨cl, c, C⟩ := C
  exact ⟨cl, c, C.et e hU⟩
theorem BrkL.ext {l : Option Obj} (B : BrkL K H b l S) (e : ExtN H H') : BrkL K H' b l S :=
  ⟨e _ _ B.hb (fun _ z => nomatch z), e _ _ B.hn (fun _ z => nomatch z), e _ _ B.hd (fun _ z => nomatch z), e _ _ B.he (fun _ => by cases l <;> exact fun z => nomatch z), fun d h => e _ _ (B.ds d h) (fun _ z => nomatch z), fun i r h => e _ _ (B.rs i r h) (fun _ z => nomatch z),
    fun x h => ⟨e _ _ (B.es x h).1 (fun _ z => nomatch z), e _ _ (B.es x h).2.1 (fun _ z => nomatch z), (B.es x h).2.2⟩, B.nd, B.da, B.ra, B.ee, B.en, B.nz, B.de⟩
theorem tabs_ek {T : List NdefX.NTab} (t : TabsN T H) (e : Ek U H H') (hU : Lst U H) : TabsN T H' := fun p hp => by
  obtain ⟨ps, h1, h2, h3⟩ := t p hp
  have g : ∀ a o, (∀ xs, o ≠ .lst xs) → nb o = true → H a = some o → H' a = some o := fun a o n m h => e.1 a o (fun z => by obtain ⟨xs, q⟩ := hU a z; rw [h] at q; exact n xs (Option.some.inj q)) m h
  refine ⟨ps, g _ _ (fun _ z => nomatch z) rfl h1, h2, fun pos cv hc => ?_⟩
  obtain ⟨c, e1, e2⟩ := h3 pos cv hc
  exact ⟨c, e1, g _ _ (fun _ z => nomatch z) rfl e2⟩
mutual
theorem Df.et (e : Et U H H') (hv : ∀ a ∈ U, a ∈ W) : ∀ {v : L2.V} {d : PyData}, Df W H v d → Df W H' v d
  | _, _, .non => .non
  | _, _, .bl b => .bl b
  | _, _, .int b => .int b
  | _, _, .str b => .str b
  | _, _, .obj n h => .obj n (e.2 _ h)
  | _, _, .lst n h r => .lst n (e.get (fun z => n (hv _ z)) h) (DfAll.et e hv r)
  | _, _, .tup n h r => .tup n (e.get (fun z => n (hv _ z)) h) (DfAll.et e hv r)
theorem DfAll.et (e : Et U H H') (hv : ∀ a ∈ U, a ∈ W) : ∀ {vs : List L2.V} {ds : List PyData}, DfAll W H vs ds → DfAll W H' vs ds
  | _, _, .nil => .nil
  | _, _, .cons h r => .cons (Df.et e hv h) (DfAll.et e hv r)
end
end
/-! ### the state between two deeds -/
structure Cf where
  b : Addr
  n : Addr
  so : Addr
  o : Addr
  ma : Addr
  lg : Addr
  du : Addr
  hl : Addr
  a : Addr
  g : Addr
  s : Addr
abbrev Cf.W (c : Cf) : List Addr := [c.o, c.ma, c.lg, c.du, c.hl, c.a, c.g]
structure Mk where
  t : Addr
  at_ : Nat
  sent : V
  pl : Int
  sd : PyData
structure Dt where
  S : BSt
  ss : List Bool
  os : List Int
  ms : List Mk
  xs : List V
  ys : List V
  ds : List PyData
  hs : List Addr
/-- what a line of the log says -/
def LOk (d : PyData) : Prop := (∃ nm sd, WOk nm ∧ VOk sd ∧ d = .tuple [.str "source", .str nm, sd, .bool true, .bool false]) ∨ ∃ (m : Nat) (sd gd : PyData), m < 1000 ∧ VOk sd ∧ VOk gd ∧ d = .tuple [.str "call", .int m, sd, gd, .bool false, .bool false]
def MkOk (K : PySem.W.Frag) (H : Hp) (c : Cf) (D : Dt) (j : Nat) (m : Mk) : Prop := H m.t = some (.tup [.int m.at_, m.sent, .int m.pl]) ∧ Df c.W H m.sent m.sd ∧ VOk m.sd ∧ ∃ r d, D.S.rs[j]? = some r ∧ D.S.ds[m.at_]? = some d ∧ r.req = d.name ∧ r.sent = m.sent ∧ r.cg = false ∧
  (∃ f, r.call = .ref f ∧ ToldC H f c.b c.lg (.int j) d.name) ∧ (D.ss[m.at_]? = some true → ∃ (p : Nat) (h dx : Addr), m.pl = p ∧ D.hs[p]? = some h ∧ H h = some (ansO K dx c.b r.a))
structure Sta (K : PySem.W.Frag) (H : Hp) (c : Cf) (D : Dt) : Prop where
  hn : H c.n = some (.lst (D.S.ns.map V.str))
  hso : H c.so = some (.lst (D.ss.map V.bl))
  ho : H c.o = some (.lst (D.os.map V.int))
  hma : H c.ma = some (.lst (D.ms.map fun m => .ref m.t))
  hlg : H c.lg = some (.lst D.xs)
  hdu : H c.du = some (.lst D.ys)
  hhl : H c.hl = some (.lst (D.hs.map V.ref))
  dx : DfAll c.W H D.xs D.ds
  dy : DfAll c.W H D.ys D.ds
  src : ∀ (i : Nat) (d : Dsk), D.S.ds[i]? = some d → d.hand = false ∧ ((D.ss[i]? = some false ∧ d.src = .non) ∨ (D.ss[i]? = some true ∧ ∃ f, d.src = .ref f ∧ KeepC H f c.b c.hl c.lg d.name))
  mks : ∀ (j : Nat) (m : Mk), D.ms[j]? = some m → MkOk K H c D j m
structure Inv6 (K : PySem.W.Frag) (H : Hp) (c : Cf) (D : Dt) (k : Nat) : Prop where
  st : Sta K H c D
  B : Brk K H c.b D.S
  P : Pool H c.a c.g c.s
  tb : TabsN (TT K) H
  nd : c.W.Nodup
  n1 : c.n ∉ c.W
  n2 : c.so ∉ c.W
  n3 : D.S.nl ∉ c.W
  n4 : c.s ∉ c.W
  z1 : D.ss.length = D.S.ds.length
  z2 : D.os.length = D.S.ds.length
  z3 : D.ms.length = D.S.rs.length
  z4 : D.ds.length ≤ k
  z5 : D.ms.length ≤ k
  z6 : D.hs.length ≤ k
  wn : ∀ nm ∈ D.S.ns, WOk nm
  w1 : 1 ≤ D.S.ns.length
  w3 : D.S.ns.length ≤ 3
  lo : ∀ d ∈ D.ds, LOk d
  dp : D.S.dp = 0
  ws : ∀ e ∈ D.S.es, e.ws = []
  opn : ∀ (i : Nat) (d : Dsk) (z : Int), D.S.ds[i]? = some d → D.os[i]? = some z → (z = -1 ∧ D.S.fe d.name = none) ∨ ∃ e, D.S.fe d.name = some e ∧ z = (e.num : Int)
section
variable {K : PySem.W.Frag} {H H' : Hp} {c : Cf} {D D' : Dt} {k : Nat} {U : List Addr} {a : Addr}
theorem MkOk.et {j : Nat} {m : Mk} (M : MkOk K H c D j m) (e : Et U H H') (hU : Lst U H) (hW : ∀ a ∈ U, a ∈ c.W) : MkOk K H' c D j m := by
  have g : ∀ a o, (∀ xs, o ≠ .lst xs) → nt o = true → H a = some o → H' a = some o := fun a o n m h => e.1 a o (fun z => by obtain ⟨xs, q⟩ := hU a z; rw [h] at q; exact n xs (Option.some.inj q)) m h
  obtain ⟨h1, h2, h3, r, d, h4, h5, h6, h7, h8, ⟨f, h9, h10⟩, h11⟩ := M
  exact ⟨g _ _ (fun _ z => nomatch z) rfl h1, h2.et e hW, h3, r, d, h4, h5, h6, h7, h8, ⟨f, h9, h10.et e hU⟩, fun z => by
    obtain ⟨p, h, dx, q1, q2, q3⟩ := h11 z
    exact ⟨p, h, dx, q1, q2, g _ _ (fun _ z => nomatch z) rfl q3⟩⟩
theorem Inv6.lst (I : Inv6 K H c D k) : Lst c.W H := fun a ha => by
  obtain ⟨gs, ss, sd, ct, p, _⟩ := I.P
  simp only [Cf.W, List.mem_cons, List.not_mem_nil, or_false] at ha
  rcases ha with rfl | rfl | rfl | rfl | rfl | rfl | rfl
  · exact ⟨_, I.st.ho⟩
  · exact ⟨_, I.st.hma⟩
  · exact ⟨_, I.st.hlg⟩
  · exact ⟨_, I.st.hdu⟩
  · exact ⟨_, I.st.hhl⟩
  · exact ⟨_, p.ha⟩
  · exact ⟨_, p.hg⟩
theorem Inv6.wl (I : Inv6 K H c D k) : Wl c.W H := fun a ha => by
  obtain ⟨xs, e⟩ := I.lst a ha
  rw [e]; simp
theorem Sta.et (I : Sta K H c D) (e : Et U H H') (hU : Lst U H) (hv : ∀ x ∈ U, x = c.a ∨ x = c.g) (nd : c.W.Nodup) (n1 : c.n ∉ c.W) (n2 : c.so ∉ c.W) : Sta K H' c D := by
  have hW : ∀ a ∈ U, a ∈ c.W := fun a ha => by rcases hv a ha with rfl | rfl <;> simp [Cf.W]
  simp only [Cf.W, List.nodup_cons, List.mem_cons, List.not_mem_nil, or_false, not_or, not_false_iff] at nd
  have g : ∀ {x : Addr} {xs : List V}, x ≠ c.a → x ≠ c.g → H x = some (.lst xs) → H' x = some (.lst xs) := fun {x xs} h1 h2 h => e.get (fun z => (hv _ z).elim h1 h2) h
  obtain ⟨⟨_, _, _, _, o1, o2⟩, ⟨_, _, _, m1, m2⟩, ⟨_, _, l1, l2⟩, ⟨_, d1, d2⟩, ⟨h1, h2⟩, _⟩ := nd
  refine ⟨e.get (fun z => n1 (hW _ z)) I.hn, e.get (fun z => n2 (hW _ z)) I.hso, g o1 o2 I.ho, g m1 m2 I.hma, g l1 l2 I.hlg, g d1 d2 I.hdu, g h1 h2 I.hhl, I.dx.et e hW, I.dy.et e hW, fun i d hi => ?_, fun j m hj => (I.mks j m hj).et e hU hW⟩
  obtain ⟨q1, q2⟩ := I.src i d hi
  refine ⟨q1, q2.imp_right fun ⟨q3, f, q4, q5⟩ => ⟨q3, f, q4, q5.et e hU⟩⟩
theorem Inv6.ed {U : List Addr} (I : Inv6 K H c D k) (e : Ed U H H') (hv : ∀ x ∈ U, x = c.a ∨ x = c.g) (P : Pool H' c.a c.g c.s) : Inv6 K H' c D k := by
  have hW : ∀ a ∈ U, a ∈ c.W := fun a ha => by rcases hv a ha with rfl | rfl <;> simp [Cf.W]
  have hU : Lst U H := fun a ha => I.lst a (hW a ha)
  exact ⟨I.st.et (Ek.ed e).et hU hv I.nd I.n1 I.n2, I.B.ed e (fun a ha => ⟨hU a ha, fun z => I.n3 (by rw [← z]; exact hW a ha)⟩), P, tabs_ek I.tb (Ek.ed e) hU, I.nd, I.n1, I.n2, I.n3, I.n4, I.z1, I.z2, I.z3, I.z4, I.z5, I.z6, I.wn, I.w1, I.w3, I.lo, I.dp, I.ws, I.opn⟩
theorem Inv6.ag (I : Inv6 K H c D k) (e : Ed [c.a, c.g] H H') (P : Pool H' c.a c.g c.s) : Inv6 K H' c D k := I.ed e (fun x hx => by simpa using hx) P
theorem Inv6.ed0 (I : Inv6 K H c D k) (e : Ed [] H H') : Inv6 K H' c D k := I.ed e (fun x hx => by cases hx) (I.P.ed0 e)
theorem Inv6.ext (I : Inv6 K H c D k) (e : ExtN H H') (l : ∀ b, H' b = none → H b = none) (tb : TabsN (TT K) H') : Inv6 K H' c D k := by
  have hU : Lst [] H := fun a ha => by cases ha
  have et := Et.ext e l
  exact ⟨I.st.et et hU (fun a ha => by cases ha) I.nd I.n1 I.n2, I.B.ext e, I.P.keep fun b xs _ h => et.get List.not_mem_nil h, tb, I.nd, I.n1, I.n2, I.n3, I.n4, I.z1, I.z2, I.z3, I.z4, I.z5, I.z6, I.wn, I.w1, I.w3, I.lo, I.dp, I.ws, I.opn⟩
end
end


section
open LamX NdefX
section
variable {K : PySem.W.Frag} {H H' : Hp} {c : Cf} {D D' : Dt} {k : Nat} {Q : VK} {E : XK}
theorem asked_back {S : BSt} {r : Rec} {tp wt en : Addr} (h : r.cg = false) : ({ BSt.setR ({ BSt.setR (S.asked r tp wt en) S.rs.length { r with cg := true } with dp := S.dp + 1 } : BSt) S.rs.length { ({ r with cg := true } : Rec) with cg := false } with dp := S.dp } : BSt) = S.asked r tp wt en := by
  obtain ⟨a, dx, rq, se, ca, cg⟩ := r
  obtain rfl : cg = false := h
  unfold BSt.asked BSt.setR
  simp
theorem fe_new {es : List Ent} {e : Ent} {nm : Str} (h : e.name = nm) : ((es.filter fun x => !decide (x.name = nm)) ++ [e]).find? (fun x => decide (x.name = nm)) = some e := by
  rw [List.find?_append, List.find?_eq_none.mpr (fun x hx => ?_)]
  · simp [h]
  · have := (List.mem_filter.mp hx).2
    simpa using this
theorem fe_other {es : List Ent} {e : Ent} {nm mm : Str} (h : e.name = nm) (n : mm ≠ nm) : ((es.filter fun x => !decide (x.name = nm)) ++ [e]).find? (fun x => decide (x.name = mm)) = es.find? (fun x => decide (x.name = mm)) := by
  rw [List.find?_append, List.find?_filter]
  have e1 : ([e].find? fun x => decide (x.name = mm)) = none := by simp [h, Ne.symm n]
  rw [e1, Option.or_none]
  refine congrArg (fun p => List.find? p es) ?_
  funext x
  by_cases z : x.name = mm
  · simp [z, n]
  · simp [z]
theorem fe_out {es : List Ent} {nm mm : Str} : (es.filter fun x => !decide (x.name = nm)).find? (fun x => decide (x.name = mm)) = if mm = nm then none else es.find? (fun x => decide (x.name = mm)) := by
  by_cases n : mm = nm
  · rw [if_pos n, n]
    exact List.find?_eq_none.mpr fun x hx => by simpa using (List.mem_filter.mp hx).2
  · rw [if_neg n, List.find?_filter]
    refine congrArg (fun p => List.find? p es) ?_
    funext x
    by_cases z : x.name = mm
    · simp [z, n]
    · simp [z]
theorem Inv6.sep (I : Inv6 K H c D k) : c.lg ≠ c.hl ∧ D.S.nl ≠ c.lg ∧ D.S.nl ≠ c.hl := by
  have nd := I.nd
  have n3 := I.n3
  simp only [Cf.W, List.nodup_cons, List.mem_cons, List.not_mem_nil, or_false, not_or, not_false_iff] at nd n3
  exact ⟨nd.2.2.1.2.1, n3.2.2.1, n3.2.2.2.2.1⟩
theorem ask_ok {i : Nat} {d : Dsk} {sent call : V} {rp : Bool} (I : Inv6 K H c D k) (hk : k ≤ 60) (hi : D.S.ds[i]? = some d)
    (k1 : (D.S.has d.name && !rp) = true → ∀ H', Ed [] H H' → Q .non H')
    (k2 : (D.S.has d.name && !rp) = false → ∀ (hd : Addr) (r : Rec) (tp wt en : Addr) (H' : Hp), r.req = d.name → r.sent = sent → r.call = call → r.cg = false → Ek [c.lg, c.hl] H H' → Brk K H' c.b (D.S.asked r tp wt en) →
      (D.ss[i]? = some false → H' c.lg = some (.lst D.xs) ∧ H' c.hl = some (.lst (D.hs.map V.ref))) →
      (D.ss[i]? = some true → ∃ t an dxa, H t = none ∧ H' t = some (.tup [.str "source", .str d.name, sent, .bl true, .bl false]) ∧ H' c.lg = some (.lst (D.xs ++ [.ref t])) ∧ H' c.hl = some (.lst ((D.hs ++ [an]).map V.ref)) ∧ H' an = some (ansO K dxa c.b r.a)) → Q (.ref hd) H') :
    sp_Broker_make_ask K [.ref c.b, .non, .str d.name, sent, call, .bl rp] H Q E := by
  obtain ⟨q1, q2⟩ := I.st.src i d hi
  obtain ⟨s1, s2, s3⟩ := I.sep
  refine ⟨c.b, D.S, i, d, sent, call, rp, rfl, I.B, hi, ?_, k1, fun hc r tp wt en H1 h1 h2 h3 h4 h5 h6 x1 B1 => ⟨fun hs hd dx H2 e2 h7 => ?_, fun g hg an dxa H2 E' Q' h7 x2 h8 B2 k3 => ?_⟩⟩
  · rcases q2 with ⟨_, z⟩ | ⟨_, f, z, cl, cc, C⟩
    · exact .inl z
    · exact .inr ⟨f, _, z, C.fn⟩
  · have hf : D.ss[i]? = some false := by
      rcases q2 with ⟨z, _⟩ | ⟨_, f, z, _⟩
      · exact z
      · rw [hs] at z; cases z
    have ek : Ek [] H H2 := (Ek.eo x1).tr (Ek.ed e2) no0
    exact k2 hc hd r tp wt en H2 h1 h2 h3 h4 (ek.weak no0) (B1.ed0 e2) (fun _ => ⟨ek.get List.not_mem_nil I.st.hlg, ek.get List.not_mem_nil I.st.hhl⟩) (fun z => by rw [hf] at z; cases z)
  · obtain ⟨htr, C⟩ : D.ss[i]? = some true ∧ KeepC H g c.b c.hl c.lg d.name := by
      rcases q2 with ⟨_, z⟩ | ⟨z1, f, z2, z3⟩
      · rw [hg] at z; cases z
      · rw [hg] at z2; cases z2; exact ⟨z1, z3⟩
    have x12 : Eo H H2 := x1.tr x2
    have C2 : KeepC H2 g c.b c.hl c.lg d.name := C.et (Ek.eo (U := []) x12).et (fun a ha => by cases ha)
    have hl2 := x12.get I.st.hlg
    have hh2 := x12.get I.st.hhl
    have lz : D.xs.length < 10000 := by rw [I.st.dx.length]; have := I.z4; omega
    have hz : (D.hs.map V.ref).length < 10000 := by rw [List.length_map]; have := I.z6; omega
    refine src_call C2 B2 hl2 hh2 s1 s2 s3 lz hz fun t H3 ht e3 h9 h10 h11 => ?_
    have hS : BSt.has ({ BSt.setR (D.S.asked r tp wt en) D.S.rs.length { r with cg := true } with dp := D.S.dp + 1 } : BSt) d.name = true := by
      unfold BSt.has BSt.fe
      show (List.find? (fun x : Ent => decide (x.name = d.name)) ((D.S.es.filter fun x => !decide (x.name = r.req)) ++ [(⟨r.req, D.S.rs.length, tp, r.a, wt, []⟩ : Ent)])).isSome = true
      rw [h1, fe_new (nm := d.name) (e := ⟨d.name, D.S.rs.length, tp, r.a, wt, []⟩) rfl]; rfl
    have hD : decide (D.S.dp + 1 = 0) = false := by rw [I.dp]; rfl
    rw [hS, hD] at h9
    have B3 := B2.ed e3 (fun a ha => by
      rcases List.mem_cons.mp ha with rfl | ha
      · exact ⟨⟨_, hl2⟩, s2.symm⟩
      · obtain rfl := List.mem_singleton.mp ha
        exact ⟨⟨_, hh2⟩, s3.symm⟩)
    refine k3 .non H3 _ { r with cg := true } B3 (set_at get_app) rfl rfl rfl fun hd dx H4 x4 B4 h12 => ?_
    have B5 : Brk K H4 c.b (D.S.asked r tp wt en) := by
      have e := asked_back (S := D.S) (tp := tp) (wt := wt) (en := en) h4
      exact e ▸ B4
    have e34 : Ek [c.lg, c.hl] H H4 := ((Ek.eo x12).tr (Ek.ed e3) fun a z => .inl z).tr (Ek.eo (U := []) x4) no0
    refine k2 hc hd r tp wt en H4 h1 h2 h3 h4 e34 B5 (fun z => by rw [htr] at z; cases z) fun _ => ⟨t, an, dxa, x12.free ht, x4.get h9, x4.get h10, ?_, x4.get (e3.get (fun z => ?_) h8)⟩
    · rw [List.map_append]; exact x4.get h11
    · rcases List.mem_cons.mp z with rfl | z
      · rw [hl2] at h8; cases h8
      · obtain rfl := List.mem_singleton.mp z
        rw [hh2] at h8; cases h8
theorem ans_ok {j : Nat} {m : Mk} {z : Int} {got : V} {r : Rec} {d : Dsk} {f : Addr} (I : Inv6 K H c D k) (hk : k ≤ 60) (hr : D.S.rs[j]? = some r) (hd : D.S.ds[m.at_]? = some d) (ho : D.os[m.at_]? = some z) (hq : r.req = d.name) (hs : r.sent = m.sent) (hcg : r.cg = false) (hc : r.call = .ref f) (C : ToldC H f c.b c.lg (.int j) d.name)
    (k1 : z ≠ (j : Int) → Q (.bl false) H)
    (k2 : z = (j : Int) → ∀ (en : Addr) (eb : V) (t : Addr) (H' : Hp), Ek [c.lg] H H' → Brk K H' c.b { D.S.closed d.name en with eb := eb } → H t = none → H' t = some (.tup [.str "call", .int j, m.sent, got, .bl false, .bl false]) → H' c.lg = some (.lst (D.xs ++ [.ref t])) → Q (.bl true) H') :
    sp_Broker_receive K [.ref c.b, .ref r.a, got] H Q E := by
  obtain ⟨s1, s2, s3⟩ := I.sep
  have op := I.opn _ _ _ hd ho
  refine ⟨c.b, D.S, j, r, got, rfl, I.B, hr, fun hcur => k1 fun ez => ?_, fun e i d' he hn hd' hdn => ⟨fun hw => absurd (I.ws e (fe_mem he).1) hw, fun hw => ?_⟩⟩
  · unfold BSt.cur at hcur
    rw [hq] at hcur
    rcases op with ⟨z1, z2⟩ | ⟨e, z1, z2⟩
    · omega
    · rw [z1] at hcur
      have := of_decide_eq_false hcur
      omega
  · have hz : z = (j : Int) := by
      rw [hq] at he
      rcases op with ⟨z1, z2⟩ | ⟨e', z1, z2⟩
      · rw [z2] at he; cases he
      · rw [z1] at he; cases he; omega
    rw [hcg, Bool.false_and, if_neg (by decide), if_pos I.dp]
    have cfn := C
    obtain ⟨cl, cc, C0⟩ := cfn
    refine ⟨f, _, hc, C0.fn, fun en H1 E' Q' hen x1 B1 k3 => ?_⟩
    have C1 : ToldC H1 f c.b c.lg (.int j) d.name := C.et (Ek.eo (U := []) x1).et (fun a ha => by cases ha)
    have hl1 := x1.get I.st.hlg
    have lz : D.xs.length < 10000 := by rw [I.st.dx.length]; have := I.z4; omega
    rw [hs]
    refine told_call C1 B1 hl1 s2 lz fun t H2 ht e2 h1 h2 => ?_
    have hS : BSt.has ({ D.S.closed r.req en with eb := .ref D.S.en, dp := D.S.dp + 1 } : BSt) d.name = false := by
      unfold BSt.has BSt.fe
      show ((D.S.es.filter _).find? _).isSome = false
      rw [hq, fe_out, if_pos rfl]; rfl
    have hD : decide (D.S.dp + 1 = 0) = false := by rw [I.dp]; rfl
    rw [hS] at h1
    have h1 : H2 t = some (.tup [.str "call", .int j, m.sent, got, .bl false, .bl false]) := by rw [h1]; simp [I.dp]
    have B2 := B1.ed e2 (fun a ha => by
      obtain rfl := List.mem_singleton.mp ha
      exact ⟨⟨_, hl1⟩, s2.symm⟩)
    refine k3 .non H2 _ B2 fun H3 x3 B3 => ?_
    rw [hq] at B3
    exact k2 hz en (.ref D.S.en) t H3 (((Ek.eo x1).tr (Ek.ed e2) fun a z => .inl z).tr (Ek.eo (U := []) x3) no0) B3 (x1.free ht) (x3.get h1) (x3.get h2)
theorem Inv6.next (I : Inv6 K H c D k) (D' : Dt) (e : Ek [c.o, c.ma, c.lg, c.du, c.hl] H H') (B' : Brk K H' c.b D'.S) (hds : D'.S.ds = D.S.ds) (hnl : D'.S.nl = D.S.nl) (hss : D'.ss = D.ss)
    (ho : H' c.o = some (.lst (D'.os.map V.int))) (hma : H' c.ma = some (.lst (D'.ms.map fun m => .ref m.t))) (hlg : H' c.lg = some (.lst D'.xs)) (hdu : H' c.du = some (.lst D'.ys)) (hhl : H' c.hl = some (.lst (D'.hs.map V.ref))) (dx : DfAll c.W H' D'.xs D'.ds) (dy : DfAll c.W H' D'.ys D'.ds)
    (hrs : ∀ (j : Nat) (r : Rec), D.S.rs[j]? = some r → D'.S.rs[j]? = some r) (hhs : ∀ (p : Nat) (h : Addr), D.hs[p]? = some h → D'.hs[p]? = some h) (hms : ∀ (j : Nat) (m : Mk), D'.ms[j]? = some m → D.ms[j]? = some m ∨ MkOk K H' c D' j m)
    (z2 : D'.os.length = D'.S.ds.length) (z3 : D'.ms.length = D'.S.rs.length) (z4 : D'.ds.length ≤ k + 1) (z5 : D'.ms.length ≤ k + 1) (z6 : D'.hs.length ≤ k + 1) (lo : ∀ d ∈ D'.ds, LOk d) (dp : D'.S.dp = 0) (ws : ∀ e ∈ D'.S.es, e.ws = [])
    (opn : ∀ (i : Nat) (d : Dsk) (z : Int), D'.S.ds[i]? = some d → D'.os[i]? = some z → (z = -1 ∧ D'.S.fe d.name = none) ∨ ∃ e, D'.S.fe d.name = some e ∧ z = (e.num : Int)) : Inv6 K H' c D' (k + 1) := by
  have hW : ∀ a ∈ [c.o, c.ma, c.lg, c.du, c.hl], a ∈ c.W := fun a ha => by
    simp only [Cf.W, List.mem_cons, List.not_mem_nil, or_false] at ha ⊢
    rcases ha with rfl | rfl | rfl | rfl | rfl <;> simp
  have hU : Lst [c.o, c.ma, c.lg, c.du, c.hl] H := fun a ha => I.lst a (hW a ha)
  have nd := I.nd
  simp only [Cf.W, List.nodup_cons, List.mem_cons, List.not_mem_nil, or_false, not_or, not_false_iff] at nd
  obtain ⟨⟨_, _, _, _, o1, o2⟩, ⟨_, _, _, m1, m2⟩, ⟨_, _, l1, l2⟩, ⟨_, d1, d2⟩, ⟨h1, h2⟩, _⟩ := nd
  have hns : D'.S.ns = D.S.ns := by unfold BSt.ns; rw [hds]
  refine ⟨⟨by rw [hns]; exact e.get (fun z => I.n1 (hW _ z)) I.st.hn, by rw [hss]; exact e.get (fun z => I.n2 (hW _ z)) I.st.hso, ho, hma, hlg, hdu, hhl, dx, dy, fun i d hi => ?_, fun j m hj => ?_⟩, B', I.P.keep fun b xs h q => e.get (fun z => ?_) q, tabs_ek I.tb e hU, I.nd, I.n1, I.n2, by rw [hnl]; exact I.n3, I.n4, by rw [hss, hds]; exact I.z1, z2, z3, z4, z5, z6, by rw [hns]; exact I.wn, by rw [hns]; exact I.w1, by rw [hns]; exact I.w3, lo, dp, ws, opn⟩
  · rw [hds] at hi
    rw [hss]
    obtain ⟨q1, q2⟩ := I.st.src i d hi
    exact ⟨q1, q2.imp_right fun ⟨q3, f, q4, q5⟩ => ⟨q3, f, q4, q5.et e.et hU⟩⟩
  · rcases hms j m hj with hj | hj
    · obtain ⟨p1, p2, p3, r, d, p4, p5, p6, p7, p8, p9, p10⟩ := (I.st.mks j m hj).et e.et hU hW
      exact ⟨p1, p2, p3, r, d, hrs _ _ p4, by rw [hds]; exact p5, p6, p7, p8, p9, fun z => by
        rw [hss] at z
        obtain ⟨p, h, dx, w1, w2, w3⟩ := p10 z
        exact ⟨p, h, dx, w1, hhs _ _ w2, w3⟩⟩
    · exact hj
  · simp only [List.mem_cons, List.not_mem_nil, or_false] at z
    rcases h with rfl | rfl | rfl
    · rcases z with z | z | z | z | z
      · exact o1 z.symm
      · exact m1 z.symm
      · exact l1 z.symm
      · exact d1 z.symm
      · exact h1 z.symm
    · rcases z with z | z | z | z | z
      · exact o2 z.symm
      · exact m2 z.symm
      · exact l2 z.symm
      · exact d2 z.symm
      · exact h2 z.symm
    · exact I.n4 (hW _ (by simpa using z))
end
end

section
open NQ
def iS (i : Int) : Str := (toString i : String)
def dgL (m : Nat) : List Nat := (Nat.toDigits 10 m).map Char.toNat
theorem is_nat {m : Nat} : (iS (m : Nat)).cps.toList = dgL m := PySem.W.KIN.signs_num m
theorem is_neg {m : Nat} (h : 0 < m) : (iS (-(m : Nat))).cps.toList = 45 :: dgL m := by
  obtain ⟨k, rfl⟩ : ∃ k, m = k + 1 := ⟨m - 1, by omega⟩
  have e : (-((k + 1 : Nat) : Int)) = Int.negSucc k := rfl
  rw [e]
  have e2 : toString (Int.negSucc k) = "-" ++ toString ((k + 1 : Nat) : Int) := rfl
  unfold iS
  rw [e2, Str.ofString_eq_toList, String.toList_append, List.map_append]
  have e3 : (iS ((k + 1 : Nat) : Int)).cps.toList = dgL (k + 1) := is_nat
  unfold iS at e3
  rw [Str.ofString_eq_toList] at e3
  have e3 : List.map Char.toNat (toString ((k + 1 : Nat) : Int)).toList = dgL (k + 1) := e3
  show List.map Char.toNat "-".toList ++ List.map Char.toNat (toString ((k + 1 : Nat) : Int)).toList = 45 :: dgL (k + 1)
  rw [e3]
  rfl
theorem dgL_len {m k : Nat} (hk : 0 < k) : (dgL m).length ≤ k ↔ m < 10 ^ k := by
  unfold dgL
  rw [List.length_map]
  exact Nat.length_toDigits_le_iff (by decide) hk
theorem ts_len {i : Int} (h : i.natAbs ≤ 10 ^ 30) : (toString i : Str).length ≤ 40 := by
  have e : (iS i).cps.toList.length = (toString i : Str).length := Array.length_toList
  rw [← e]
  have hd : ∀ m : Nat, m ≤ 10 ^ 30 → (dgL m).length ≤ 31 := fun m hm => (dgL_len (by decide)).mpr (Nat.lt_of_le_of_lt hm (by decide))
  rcases Int.natAbs_eq i with q | q
  · rw [q, is_nat]
    exact Nat.le_trans (hd _ h) (by decide)
  · by_cases z : i.natAbs = 0
    · rw [q, z]; decide +kernel
    · rw [q, is_neg (by omega)]
      have := hd _ h
      simp only [List.length_cons]
      omega
theorem vd_int {n w : Nat} {i : Int} (h : i.natAbs ≤ 10 ^ 30) (hw : 100 ≤ w) : RpD n w (.int i) := by
  have hl : i.natAbs.log2 < 100 := by
    by_cases z : i.natAbs = 0
    · rw [z]; decide
    · exact (Nat.log2_lt z).mpr (Nat.lt_of_le_of_lt h (by decide))
  have hs : (toString i : Str).length ≤ 40 := ts_len h
  exact .int hl hs (by omega)

theorem lw_sok {t : Str} (h : Lw t) : PyData.strOk t = true := sok_asc fun c hc => by have := h c hc; omega
theorem vok_rp {d : PyData} (h : VOk d) : RpD 1 400 d ∧ noD d = true := by
  obtain ⟨i, hi, h⟩ := h
  have h1 : RpD 0 100 (.int i) := vd_int hi (Nat.le_refl _)
  rcases h with rfl | rfl | rfl | rfl | rfl | ⟨n, hn, rfl⟩
  · exact ⟨.none, by simp [noD]⟩
  · exact ⟨.bool, by simp [noD]⟩
  · exact ⟨.tuple (n := 0) (w := 100) (fun d hd => by
      simp only [List.mem_cons, List.not_mem_nil, or_false] at hd
      rcases hd with rfl | rfl
      · exact h1
      · exact .str (by decide +kernel) (Nat.le_of_ble_eq_true rfl)) (Nat.le_of_ble_eq_true rfl), by simp [noD, noDs]⟩
  · exact ⟨.list (n := 0) (w := 100) (fun d hd => by
      simp only [List.mem_cons, List.not_mem_nil, or_false] at hd
      rcases hd with rfl | rfl
      · exact h1
      · exact .none) (Nat.le_of_ble_eq_true rfl), by simp [noD, noDs]⟩
  · exact ⟨vd_int hi (by decide), by simp [noD]⟩
  · refine ⟨.str ?_ ?_, by simp [noD]⟩
    · have : n = 0 ∨ n = 1 ∨ n = 2 ∨ n = 3 := by omega
      rcases this with rfl | rfl | rfl | rfl <;> decide +kernel
    · have : n = 0 ∨ n = 1 ∨ n = 2 ∨ n = 3 := by omega
      rcases this with rfl | rfl | rfl | rfl <;> exact Nat.le_of_ble_eq_true (by rfl)
theorem RpD.up {n w : Nat} {d : PyData} (h : RpD n w d) {m u : Nat} (hn : n ≤ m) (hu : w ≤ u) : RpD m u d := ⟨h.sh, h.nd, Nat.le_trans h.dp hn, h.lv, Nat.le_trans h.wt hu, h.ok⟩
theorem lok_rp {d : PyData} (h : LOk d) : RpD 2 3000 d ∧ noD d = true := by
  rcases h with ⟨nm, sd, h1, h2, rfl⟩ | ⟨m, sd, gd, hm, h1, h2, rfl⟩
  · obtain ⟨r, n⟩ := vok_rp h2
    refine ⟨.tuple (n := 1) (w := 400) (fun d hd => ?_) (Nat.le_of_ble_eq_true rfl), by simp [noD, noDs, n]⟩
    simp only [List.mem_cons, List.not_mem_nil, or_false] at hd
    rcases hd with rfl | rfl | rfl | rfl | rfl
    · exact .str (by decide +kernel) (Nat.le_of_ble_eq_true rfl)
    · exact .str (lw_sok h1.1) (by have := h1.2.2; omega)
    · exact r
    · exact .bool
    · exact .bool
  · obtain ⟨r, n⟩ := vok_rp h1
    obtain ⟨r2, n2⟩ := vok_rp h2
    refine ⟨.tuple (n := 1) (w := 400) (fun d hd => ?_) (Nat.le_of_ble_eq_true rfl), by simp [noD, noDs, n, n2]⟩
    simp only [List.mem_cons, List.not_mem_nil, or_false] at hd
    rcases hd with rfl | rfl | rfl | rfl | rfl | rfl
    · exact .str (by decide +kernel) (Nat.le_of_ble_eq_true rfl)
    · exact vd_int (by have : (10 : Nat) ^ 30 = 1000000000000000000000000000000 := by decide +kernel
                       omega) (by decide)
    · exact r
    · exact r2
    · exact .bool
    · exact .bool
theorem log_rp {ds : List PyData} (h : ∀ d ∈ ds, LOk d) (hz : ds.length ≤ 60) : (PyData.list ds).showable = true ∧ (PyData.list ds).hasDict = false ∧ (PyData.list ds).depth ≤ 60 ∧ (PyData.list ds).shown.length ≤ sizeLine ∧ noD (.list ds) = true := by
  have r : RpD 3 180060 (.list ds) := .list (n := 2) (w := 3000) (fun d hd => (lok_rp (h d hd)).1) (Nat.le_trans (Nat.mul_le_mul_right _ hz) (by decide))
  refine ⟨r.sh, r.nd, Nat.le_trans r.dp (by decide), ?_, ?_⟩
  · have h1 := PyData.shown_le 40 (by decide) _ r.lv
    have h2 := Nat.mul_le_mul_left (40 + 2) r.wt
    rw [sizeLine_eq]
    omega
  · have := noDs_all fun d hd => (lok_rp (h d hd)).2
    simp only [noD]
    exact this
end


section
open LamX NdefX
section
variable {K : PySem.W.Frag} {Hs H H' H1 H2 : Hp} {c : Cf} {D D' : Dt} {k i : Nat} {Q : VK} {E : XK} {d : Dsk} {sent got : V} {sd gd : PyData} {f : Addr} {U U' : List Addr} {pl : Int} {t u en : Addr} {eb : V}
theorem Et.tr (e : Et U H H1) (e2 : Et U' H1 H2) (hv : ∀ a ∈ U', a ∈ U) : Et U H H2 := ⟨fun a o n m h => e2.1 a o (fun z => n (hv a z)) m (e.1 a o n m h), fun a h => e2.2 a (e.2 a h)⟩
theorem log_sm {n : Nat} (h : n < 1000) : n.log2 < 200 := by
  by_cases hz : n = 0
  · subst hz; decide
  · exact (Nat.log2_lt hz).mpr (Nat.lt_of_lt_of_le h (by decide))
theorem Inv6.up (I : Inv6 K H c D k) : Inv6 K H c D (k + 1) := ⟨I.st, I.B, I.P, I.tb, I.nd, I.n1, I.n2, I.n3, I.n4, I.z1, I.z2, I.z3, Nat.le_succ_of_le I.z4, Nat.le_succ_of_le I.z5, Nat.le_succ_of_le I.z6, I.wn, I.w1, I.w3, I.lo, I.dp, I.ws, I.opn⟩
theorem Inv6.same (I : Inv6 K H c D k) {i' : Nat} {d' : Dsk} (h : D.S.ds[i]? = some d) (h' : D.S.ds[i']? = some d') (e : d'.name = d.name) : i' = i ∧ d' = d := by
  have e1 : D.S.ns[i']? = some d.name := by rw [List.getElem?_map, h', ← e]; rfl
  have e2 : D.S.ns[i]? = some d.name := by rw [List.getElem?_map, h]; rfl
  have hl : i' < D.S.ns.length := (List.getElem?_eq_some_iff.mp e1).1
  have := (List.getElem?_inj hl I.B.nd).mp (e1.trans e2.symm)
  subst this
  rw [h] at h'
  exact ⟨rfl, (Option.some.inj h').symm⟩
def AskD (K : PySem.W.Frag) (Hs H' : Hp) (c : Cf) (D : Dt) (k i : Nat) (d : Dsk) (sent : V) (sd : PyData) (f : Addr) : Prop := ∃ (H : Hp) (r : Rec) (tp wt en : Addr), Inv6 K H c D k ∧ Et c.W Hs H ∧ Df c.W H sent sd ∧ ToldC H f c.b c.lg (.int D.S.rs.length) d.name ∧ r.req = d.name ∧ r.sent = sent ∧ r.call = .ref f ∧ r.cg = false ∧ Ek [c.lg, c.hl] H H' ∧ Brk K H' c.b (D.S.asked r tp wt en) ∧
  (D.ss[i]? = some false → H' c.lg = some (.lst D.xs) ∧ H' c.hl = some (.lst (D.hs.map V.ref))) ∧
  (D.ss[i]? = some true → ∃ t an dxa, H t = none ∧ H' t = some (.tup [.str "source", .str d.name, sent, .bl true, .bl false]) ∧ H' c.lg = some (.lst (D.xs ++ [.ref t])) ∧ H' c.hl = some (.lst ((D.hs ++ [an]).map V.ref)) ∧ H' an = some (ansO K dxa c.b r.a))
def AskP (K : PySem.W.Frag) (Hs H' : Hp) (c : Cf) (D : Dt) (k i : Nat) (d : Dsk) (sent : V) (sd : PyData) (f : Addr) (rp : Bool) (v : V) : Prop :=
  ((D.S.has d.name && !rp) = true ∧ v = .non ∧ Inv6 K H' c D k ∧ Et c.W Hs H') ∨ ((D.S.has d.name && !rp) = false ∧ (∃ hd, v = .ref hd) ∧ AskD K Hs H' c D k i d sent sd f)
theorem ask_cut {rp : Bool} {R : V → Hp → Prop} (I : Inv6 K H c D k) (hk : k ≤ 60) (hi : D.S.ds[i]? = some d) (et : Et c.W Hs H) (ds : Df c.W H sent sd) (C : ToldC H f c.b c.lg (.int D.S.rs.length) d.name)
    (h : ∀ v H', AskP K Hs H' c D k i d sent sd f rp v → R v H') : sp_Broker_ask K [.ref c.b, .str d.name, sent, .ref f, .bl rp] H R E :=
  ⟨c.b, D.S, d.name, sent, .ref f, rp, rfl, I.B.hb, ask_ok I hk hi (fun hc H' e => h _ _ (.inl ⟨hc, rfl, I.ed0 e, et.tr (Ek.ed e).et no0⟩)) fun hc hd r tp wt en H' h1 h2 h3 h4 e B s1 s2 => h _ _ (.inr ⟨hc, ⟨hd, rfl⟩, H, r, tp, wt, en, I, et, ds, C, h1, h2, h3, h4, e, B, s1, s2⟩)⟩
theorem Cf.sub5 : ∀ a ∈ [c.o, c.ma, c.lg, c.du, c.hl], a ∈ c.W := fun a ha => by
  simp only [Cf.W, List.mem_cons, List.not_mem_nil, or_false] at ha ⊢
  rcases ha with rfl | rfl | rfl | rfl | rfl <;> simp
theorem asked_next (A : AskD K Hs H1 c D k i d sent sd f) (hk : k ≤ 50) (hi : D.S.ds[i]? = some d) (hv : VOk sd) (e : Ed [c.o, c.ma, c.du] H1 H2) (ho : H2 c.o = some (.lst ((D.os.set i (D.ms.length : Nat)).map V.int))) (ht : H2 t = some (.tup [.int i, sent, .int pl])) (hma : H2 c.ma = some (.lst ((D.ms.map fun m => .ref m.t) ++ [.ref t])))
    (s1 : D.ss[i]? = some false → H2 c.du = some (.lst D.ys)) (s2 : D.ss[i]? = some true → pl = (D.hs.length : Nat) ∧ ∃ u, H1 u = none ∧ H2 u = some (.tup [.str "source", .str d.name, sent, .bl true, .bl false]) ∧ H2 c.du = some (.lst (D.ys ++ [.ref u]))) :
    ∃ D', Inv6 K H2 c D' (k + 1) ∧ D'.S.ds = D.S.ds ∧ Et c.W Hs H2 := by
  obtain ⟨H, r, tp, wt, en, I, et, ds, C, r1, r2, r3, r4, e1, B1, a1, a2⟩ := A
  have nd := I.nd
  simp only [Cf.W, List.nodup_cons, List.mem_cons, List.not_mem_nil, or_false, not_or, not_false_iff] at nd
  obtain ⟨⟨nom, nol, nod, noh, _⟩, ⟨nml, nmd, nmh, _⟩, ⟨nld, nlh, _⟩, ⟨ndh, _⟩, _⟩ := nd
  have hB3 : ∀ a ∈ [c.o, c.ma, c.du], a ∈ c.W := fun a ha => by
    simp only [List.mem_cons, List.not_mem_nil, or_false] at ha
    rcases ha with rfl | rfl | rfl <;> simp [Cf.W]
  have e12 : Ek [c.o, c.ma, c.lg, c.du, c.hl] H H2 := (e1.weak (U' := [c.o, c.ma, c.lg, c.du, c.hl]) (fun a ha => by
    simp only [List.mem_cons, List.not_mem_nil, or_false] at ha
    rcases ha with rfl | rfl <;> simp)).tr (Ek.ed e) fun a ha => .inl (by
    simp only [List.mem_cons, List.not_mem_nil, or_false] at ha
    rcases ha with rfl | rfl | rfl <;> simp)
  have eW : Et c.W Hs H2 := et.tr e12.et Cf.sub5
  have hU1 : ∀ a ∈ [c.o, c.ma, c.du], (∃ xs, H1 a = some (.lst xs)) ∧ a ≠ (D.S.asked r tp wt en).nl := fun a ha => by
    have hw := hB3 a ha
    obtain ⟨xs, q⟩ := I.lst a hw
    refine ⟨⟨xs, e1.get (fun z => ?_) q⟩, fun z => I.n3 (by rw [show D.S.nl = a from z.symm]; exact hw)⟩
    simp only [List.mem_cons, List.not_mem_nil, or_false] at ha z
    rcases ha with rfl | rfl | rfl <;> rcases z with z | z
    · exact nol z
    · exact noh z
    · exact nml z
    · exact nmh z
    · exact nld z.symm
    · exact ndh z
  have B2 : Brk K H2 c.b (D.S.asked r tp wt en) := B1.ed e hU1
  have C2 : ToldC H2 f c.b c.lg (.int D.S.rs.length) d.name := C.et e12.et fun a ha => I.lst a (Cf.sub5 a ha)
  have ds2 : Df c.W H2 sent sd := ds.et e12.et Cf.sub5
  have ix : i < D.S.ds.length := (List.getElem?_eq_some_iff.mp hi).1
  have nlg : c.lg ∉ [c.o, c.ma, c.du] := fun z => by
    simp only [List.mem_cons, List.not_mem_nil, or_false] at z
    rcases z with z | z | z
    · exact nol z.symm
    · exact nml z.symm
    · exact nld z
  have nhl : c.hl ∉ [c.o, c.ma, c.du] := fun z => by
    simp only [List.mem_cons, List.not_mem_nil, or_false] at z
    rcases z with z | z | z
    · exact noh z.symm
    · exact nmh z.symm
    · exact ndh z.symm
  have opn : ∀ (i' : Nat) (d' : Dsk) (z : Int), (D.S.asked r tp wt en).ds[i']? = some d' → (D.os.set i (D.ms.length : Nat))[i']? = some z → (z = -1 ∧ (D.S.asked r tp wt en).fe d'.name = none) ∨ ∃ e, (D.S.asked r tp wt en).fe d'.name = some e ∧ z = (e.num : Int) := fun i' d' z h1 h2 => by
    have h1 : D.S.ds[i']? = some d' := h1
    have fe' : ∀ nm, (D.S.asked r tp wt en).fe nm = ((D.S.es.filter fun e => !decide (e.name = r.req)) ++ [(⟨r.req, D.S.rs.length, tp, r.a, wt, []⟩ : Ent)]).find? (fun e : Ent => decide (e.name = nm)) := fun nm => rfl
    by_cases q : i' = i
    · subst q
      rw [hi] at h1
      cases h1
      rw [List.getElem?_set, if_pos rfl, if_pos (by rw [I.z2]; exact ix)] at h2
      cases h2
      refine .inr ⟨⟨r.req, D.S.rs.length, tp, r.a, wt, []⟩, ?_, by rw [I.z3]⟩
      rw [fe', ← r1]
      exact fe_new rfl
    · rw [List.getElem?_set, if_neg (Ne.symm q)] at h2
      have nn : d'.name ≠ d.name := fun z => q (I.same hi h1 z).1
      rw [fe', fe_other (e := ⟨r.req, D.S.rs.length, tp, r.a, wt, []⟩) rfl (by rw [r1]; exact nn)]
      exact I.opn i' d' z h1 h2
  have hrs : ∀ (j : Nat) (s : Rec), D.S.rs[j]? = some s → (D.S.asked r tp wt en).rs[j]? = some s := fun j s h => by
    show (D.S.rs ++ [r])[j]? = some s
    rw [List.getElem?_append_left (List.getElem?_eq_some_iff.mp h).1]; exact h
  have z3 : (D.ms ++ [(⟨t, i, sent, pl, sd⟩ : Mk)]).length = (D.S.asked r tp wt en).rs.length := by
    show _ = (D.S.rs ++ [r]).length
    rw [List.length_append, List.length_append, I.z3]; rfl
  have ws : ∀ e ∈ (D.S.asked r tp wt en).es, e.ws = [] := fun x hx => by
    rcases List.mem_append.mp hx with hx | hx
    · exact I.ws x (List.mem_filter.mp hx).1
    · obtain rfl : x = _ := by simpa using hx
      rfl
  have hma' : H2 c.ma = some (.lst ((D.ms ++ [(⟨t, i, sent, pl, sd⟩ : Mk)]).map fun m : Mk => V.ref m.t)) := by rw [List.map_append]; exact hma
  have key : ∀ (D' : Dt), D'.S = D.S.asked r tp wt en → D'.ss = D.ss → D'.ms = D.ms ++ [⟨t, i, sent, pl, sd⟩] → (D.ss[i]? = some true → ∃ (p : Nat) (h dx : Addr), pl = p ∧ D'.hs[p]? = some h ∧ H2 h = some (ansO K dx c.b r.a)) → ∀ (j : Nat) (m : Mk), D'.ms[j]? = some m → D.ms[j]? = some m ∨ MkOk K H2 c D' j m := fun D' q1 q2 q3 q4 j m hj => by
    rw [q3] at hj
    by_cases hl : j < D.ms.length
    · rw [List.getElem?_append_left hl] at hj; exact .inl hj
    · have hj' := (List.getElem?_eq_some_iff.mp hj).1
      rw [List.length_append, List.length_singleton] at hj'
      obtain rfl : j = D.ms.length := by omega
      rw [get_app] at hj
      cases hj
      refine .inr ⟨ht, ds2, hv, r, d, ?_, by rw [q1]; exact hi, r1, r2, r4, ⟨f, r3, by rw [I.z3]; exact C2⟩, fun z => q4 (by rw [q2] at z; exact z)⟩
      rw [q1, I.z3]
      exact get_app
  have hss : D.ss[i]? = some false ∨ D.ss[i]? = some true := by
    rcases (I.st.src i d hi).2 with ⟨z, _⟩ | ⟨z, _⟩
    · exact .inl z
    · exact .inr z
  have x5 := I.z5
  have x4 := I.z4
  have x6 := I.z6
  rcases hss with hs | hs
  · obtain ⟨w1, w2⟩ := a1 hs
    refine ⟨⟨D.S.asked r tp wt en, D.ss, D.os.set i (D.ms.length : Nat), D.ms ++ [⟨t, i, sent, pl, sd⟩], D.xs, D.ys, D.ds, D.hs⟩, I.next _ e12 B2 rfl rfl rfl ho hma' (e.get nlg w1) (s1 hs) (e.get nhl w2) (I.st.dx.et e12.et Cf.sub5) (I.st.dy.et e12.et Cf.sub5) hrs (fun _ _ h => h) (key _ rfl rfl rfl fun z => by rw [hs] at z; cases z) ?_ z3 (Nat.le_succ_of_le x4) ?_ (Nat.le_succ_of_le x6) I.lo I.dp ws opn, rfl, eW⟩
    · rw [List.length_set]; exact I.z2
    · show (D.ms ++ [_]).length ≤ k + 1
      rw [List.length_append, List.length_singleton]; omega
  · obtain ⟨t2, an, dxa, v1, v2, v3, v4, v5⟩ := a2 hs
    obtain ⟨p1, u, p2, p3, p4⟩ := s2 hs
    have ht2 : H2 t2 = some (.tup [.str "source", .str d.name, sent, .bl true, .bl false]) := e.get (fun z => by
      obtain ⟨⟨xs, q⟩, _⟩ := hU1 _ z
      rw [v2] at q; cases q) v2
    have han : H2 an = some (ansO K dxa c.b r.a) := e.get (fun z => by
      obtain ⟨⟨xs, q⟩, _⟩ := hU1 _ z
      rw [v5] at q; cases q) v5
    have nW : ∀ x, H x = none → x ∉ c.W := fun x hx => I.wl.not hx
    have line : ∀ x, x ∉ c.W → H2 x = some (.tup [.str "source", .str d.name, sent, .bl true, .bl false]) → Df c.W H2 (.ref x) (.tuple [.str "source", .str d.name, sd, .bool true, .bool false]) := fun x n h => .tup n h (.cons (.str _) (.cons (.str _) (.cons ds2 (.cons (.bl _) (.cons (.bl _) .nil)))))
    have dx2 := (I.st.dx.et e12.et Cf.sub5).snoc (line t2 (nW _ v1) ht2)
    have dy2 := (I.st.dy.et e12.et Cf.sub5).snoc (line u (nW _ (e1.free p2)) p3)
    refine ⟨⟨D.S.asked r tp wt en, D.ss, D.os.set i (D.ms.length : Nat), D.ms ++ [⟨t, i, sent, pl, sd⟩], D.xs ++ [.ref t2], D.ys ++ [.ref u], D.ds ++ [.tuple [.str "source", .str d.name, sd, .bool true, .bool false]], D.hs ++ [an]⟩, I.next _ e12 B2 rfl rfl rfl ho hma' (e.get nlg v3) p4 (e.get nhl v4) dx2 dy2 hrs (fun p h q => ?_) (key _ rfl rfl rfl fun _ => ⟨D.hs.length, an, dxa, p1, get_app, han⟩) ?_ z3 ?_ ?_ ?_ (fun x hx => ?_) I.dp ws opn, rfl, eW⟩
    · show (D.hs ++ [an])[p]? = some h
      rw [List.getElem?_append_left (List.getElem?_eq_some_iff.mp q).1]; exact q
    · rw [List.length_set]; exact I.z2
    · show (D.ds ++ [_]).length ≤ k + 1
      rw [List.length_append, List.length_singleton]; omega
    · show (D.ms ++ [_]).length ≤ k + 1
      rw [List.length_append, List.length_singleton]; omega
    · show (D.hs ++ [_]).length ≤ k + 1
      rw [List.length_append, List.length_singleton]; omega
    · rcases List.mem_append.mp hx with hx | hx
      · exact I.lo x hx
      · obtain rfl : x = _ := by simpa using hx
        exact .inl ⟨d.name, sd, I.wn _ (List.mem_map.mpr ⟨d, List.mem_of_getElem? hi, rfl⟩), hv, rfl⟩
theorem ans_next {m : Nat} (I : Inv6 K H c D k) (hk : k ≤ 50) (hm : m < 1000) (et : Et c.W Hs H) (hi : D.S.ds[i]? = some d) (hv : VOk sd) (hg : VOk gd) (ds : Df c.W H sent sd) (dg : Df c.W H got gd) (e1 : Ek [c.lg] H H1) (B1 : Brk K H1 c.b { D.S.closed d.name en with eb := eb }) (ht0 : H t = none) (ht : H1 t = some (.tup [.str "call", .int m, sent, got, .bl false, .bl false])) (hlg : H1 c.lg = some (.lst (D.xs ++ [.ref t])))
    (e : Ed [c.o, c.du] H1 H2) (ho : H2 c.o = some (.lst ((D.os.set i (-1)).map V.int))) (hu0 : H1 u = none) (hu : H2 u = some (.tup [.str "call", .int m, sent, got, .bl false, .bl false])) (hdu : H2 c.du = some (.lst (D.ys ++ [.ref u]))) :
    ∃ D', Inv6 K H2 c D' (k + 1) ∧ D'.S.ds = D.S.ds ∧ Et c.W Hs H2 := by
  have nd := I.nd
  simp only [Cf.W, List.nodup_cons, List.mem_cons, List.not_mem_nil, or_false, not_or, not_false_iff] at nd
  obtain ⟨⟨nom, nol, nod, noh, _⟩, ⟨nml, nmd, nmh, _⟩, ⟨nld, nlh, _⟩, ⟨ndh, _⟩, _⟩ := nd
  have e12 : Ek [c.o, c.ma, c.lg, c.du, c.hl] H H2 := (e1.weak (U' := [c.o, c.ma, c.lg, c.du, c.hl]) (fun a ha => by
    simp only [List.mem_cons, List.not_mem_nil, or_false] at ha
    rcases ha with rfl; simp)).tr (Ek.ed e) fun a ha => .inl (by
    simp only [List.mem_cons, List.not_mem_nil, or_false] at ha
    rcases ha with rfl | rfl <;> simp)
  have eW : Et c.W Hs H2 := et.tr e12.et Cf.sub5
  have g1 : ∀ {x : Addr} {xs : List V}, x ≠ c.lg → H x = some (.lst xs) → H1 x = some (.lst xs) := fun {x xs} n h => e1.get (fun z => n (List.mem_singleton.mp z)) h
  have hU1 : ∀ a ∈ [c.o, c.du], (∃ xs, H1 a = some (.lst xs)) ∧ a ≠ D.S.nl := fun a ha => by
    have n3 := I.n3
    simp only [Cf.W, List.mem_cons, List.not_mem_nil, or_false, not_or] at n3
    simp only [List.mem_cons, List.not_mem_nil, or_false] at ha
    rcases ha with rfl | rfl
    · exact ⟨⟨_, g1 nol I.st.ho⟩, fun z => n3.1 z.symm⟩
    · exact ⟨⟨_, g1 (Ne.symm nld) I.st.hdu⟩, fun z => n3.2.2.2.1 z.symm⟩
  have B2 := B1.ed e hU1
  have g2 : ∀ {x : Addr} {xs : List V}, x ≠ c.lg → x ≠ c.o → x ≠ c.du → H x = some (.lst xs) → H2 x = some (.lst xs) := fun {x xs} n1 n2 n3 h => e.get (fun z => by
    simp only [List.mem_cons, List.not_mem_nil, or_false] at z
    exact z.elim n2 n3) (g1 n1 h)
  have ix : i < D.S.ds.length := (List.getElem?_eq_some_iff.mp hi).1
  have nlg : c.lg ∉ [c.o, c.du] := fun z => by
    simp only [List.mem_cons, List.not_mem_nil, or_false] at z
    exact z.elim (fun z => nol z.symm) nld
  have ht2 : H2 t = some (.tup [.str "call", .int m, sent, got, .bl false, .bl false]) := e.get (fun z => by
      obtain ⟨⟨xs, q⟩, _⟩ := hU1 _ z
      rw [ht] at q; cases q) ht
  have ds2 : Df c.W H2 sent sd := ds.et e12.et Cf.sub5
  have dg2 : Df c.W H2 got gd := dg.et e12.et Cf.sub5
  have nW : ∀ x, H x = none → x ∉ c.W := fun x hx => I.wl.not hx
  have line : ∀ x, x ∉ c.W → H2 x = some (.tup [.str "call", .int m, sent, got, .bl false, .bl false]) → Df c.W H2 (.ref x) (.tuple [.str "call", .int m, sd, gd, .bool false, .bool false]) := fun x n h => .tup n h (.cons (.str _) (.cons (.int _) (.cons ds2 (.cons dg2 (.cons (.bl _) (.cons (.bl _) .nil))))))
  have dx2 := (I.st.dx.et e12.et Cf.sub5).snoc (line t (nW _ ht0) ht2)
  have dy2 := (I.st.dy.et e12.et Cf.sub5).snoc (line u (nW _ (e1.free hu0)) hu)
  have x5 := I.z5
  have x4 := I.z4
  have x6 := I.z6
  refine ⟨⟨{ D.S.closed d.name en with eb := eb }, D.ss, D.os.set i (-1), D.ms, D.xs ++ [.ref t], D.ys ++ [.ref u], D.ds ++ [.tuple [.str "call", .int m, sd, gd, .bool false, .bool false]], D.hs⟩, I.next _ e12 B2 rfl rfl rfl ho (g2 nml (Ne.symm nom) nmd I.st.hma) (e.get nlg hlg) hdu (g2 (Ne.symm nlh) (Ne.symm noh) (Ne.symm ndh) I.st.hhl) dx2 dy2 (fun _ _ h => h) (fun _ _ h => h) (fun _ _ h => .inl h) ?_ I.z3 ?_ (Nat.le_succ_of_le x5) (Nat.le_succ_of_le x6) (fun x hx => ?_) I.dp (fun x hx => I.ws x (List.mem_filter.mp hx).1) fun i' d' z h1 h2 => ?_, rfl, eW⟩
  · rw [List.length_set]; exact I.z2
  · show (D.ds ++ [_]).length ≤ k + 1
    rw [List.length_append, List.length_singleton]; omega
  · rcases List.mem_append.mp hx with hx | hx
    · exact I.lo x hx
    · obtain rfl : x = _ := by simpa using hx
      exact .inr ⟨m, sd, gd, hm, hv, hg, rfl⟩
  · have h3 : D.S.ds[i']? = some d' := h1
    have h4 : (D.os.set i (-1))[i']? = some z := h2
    clear h1 h2
    show (z = -1 ∧ (D.S.es.filter fun e => !decide (e.name = d.name)).find? (fun e => decide (e.name = d'.name)) = none) ∨ ∃ e, (D.S.es.filter fun e => !decide (e.name = d.name)).find? (fun e => decide (e.name = d'.name)) = some e ∧ z = (e.num : Int)
    rw [fe_out]
    by_cases q : i' = i
    · subst q
      rw [hi] at h3
      cases h3
      rw [List.getElem?_set, if_pos rfl, if_pos (by rw [I.z2]; exact ix)] at h4
      cases h4
      exact .inl ⟨rfl, if_pos rfl⟩
    · rw [List.getElem?_set, if_neg (Ne.symm q)] at h4
      have nn : d'.name ≠ d.name := fun z => q (I.same hi h3 z).1
      rw [if_neg nn]
      exact I.opn i' d' z h3 h4
end
end

def sp_law_ask_deed (K : PySem.W.Frag) : Sp := fun vs H Q _ => ∃ (c : Cf) (D : Dt) (k : Nat) (w : Addr), vs = [.ref c.a, .ref w] ∧ H w = some (.tup [.ref c.b, .ref c.n, .ref c.so, .ref c.o, .ref c.ma, .ref c.lg, .ref c.du, .ref c.hl]) ∧ k ≤ 50 ∧ Inv6 K H c D k ∧ ∀ H' D', Inv6 K H' c D' (k + 1) → D'.S.ds = D.S.ds → Et c.W H H' → Q (.bl true) H'
def sp_law_answer_deed (K : PySem.W.Frag) : Sp := fun vs H Q _ => ∃ (c : Cf) (D : Dt) (k : Nat) (w : Addr), vs = [.ref c.a, .ref w] ∧ H w = some (.tup [.ref c.b, .ref c.n, .ref c.so, .ref c.o, .ref c.ma, .ref c.lg, .ref c.du, .ref c.hl]) ∧ k ≤ 50 ∧ Inv6 K H c D k ∧ ∀ H' D', Inv6 K H' c D' (k + 1) → D'.S.ds = D.S.ds → Et c.W H H' → Q (.bl true) H'

theorem map_set_same {α β : Type} {l : List α} {i : Nat} {x y : α} {f : α → β} (h : l[i]? = some y) (e : f x = f y) : (l.set i x).map f = l.map f := by
  refine List.ext_getElem? fun j => ?_
  rw [List.getElem?_map, List.getElem?_map, List.getElem?_set]
  by_cases q : i = j
  · rw [if_pos q, if_pos (List.getElem?_eq_some_iff.mp h).1, ← q, h]; simp [e]
  · rw [if_neg q]
theorem set_cases {α : Type} {l : List α} {i j : Nat} {x y : α} (h : (l.set i x)[j]? = some y) : (j = i ∧ y = x) ∨ (j ≠ i ∧ l[j]? = some y) := by
  rw [List.getElem?_set] at h
  by_cases q : i = j
  · rw [if_pos q] at h
    split at h
    · exact .inl ⟨q.symm, (Option.some.inj h).symm⟩
    · cases h
  · rw [if_neg q] at h
    exact .inr ⟨Ne.symm q, h⟩
theorem ed_drop {U : List Addr} {H H' : Hp} {L : Addr} (e : Ed (L :: U) H H') (h : H L = none) : Ed U H H' := ⟨fun a o n q => e.1 a o (fun z => (List.mem_cons.mp z).elim (fun z => by rw [z, h] at q; cases q) n) q, e.2⟩

def sp_law (K : PySem.W.Frag) : Sp := fun vs H Q _ => ∃ (a : Addr) (ns : List Int), vs = [.ref a] ∧ NdefX.TabsN (TT K) H ∧ SqL K H a (ns.map V.int) ∧ ns.length ≤ 63 ∧ ∀ H', Q (.bl true) H'
section
variable {P : Program} {w : World} {K : PySem.W.Frag} {mg : Str → Option Value} {base : Heap}
theorem ok_UnknownRequest___init__ {f : Addr} {fd : FuncData} (F : FnP K "__init__" "UnknownRequest.__init__" s_UnknownRequest___init__ f fd) (o : OexG K (He.ga K "UnknownRequest")) (no : PySem.W.findIn K (.ref (He.ga K "UnknownRequest")) "name" = some none) : FnOk P w K mg base (L2.CX P w) 1 f fd ["self", "name"] (sp_xi (He.ga K "UnknownRequest") "name") := by
  refine F.ok sc_UnknownRequest___init__ (fun vs H Q E h => ?_) (fun cdv A outer s H vs Q E hr h => ?_)
  · obtain ⟨a, v, rfl, _⟩ := h
    rfl
  · obtain ⟨a, v, rfl, ha, k⟩ := h
    exact ⟨_, pss_one (ps_of (pv 0) (pv 1)), _, rfl, _, rfl, a, _, rfl, o, no, ha, fun dx h1 h2 => k dx h1 h2⟩
end
section
variable {P : Program} {w : World} {K : PySem.W.Frag} {mg : Str → Option Value} {base : Heap}
theorem ok_Record___init__ {f : Addr} {fd : FuncData} (F : FnP K "__init__" "Record.__init__" s_Record___init__ f fd) (T : Txt K mg)   : FnOk P w K mg base (L2.CX P w) 1 f fd ["self", "number", "request", "sent", "call", "owner"] (sp_Record___init__ K) := by
  refine F.ok sc_Record___init__ (fun vs H Q E h => ?_) (fun cdv A outer s H vs Q E hr h => ?_)
  · obtain ⟨a, dx, n, rq, sent, call, rfl, _⟩ := h
    rfl
  · have nd := sc_Record___init__.nd
    have tk := takes_of (E := E) (X := (cxOf (L2.CX P w) P w K mg base ["self", "number", "request", "sent", "call", "owner"] "Record.__init__" (defScope s_Record___init__) f cdv A outer s H E)) rfl rfl rfl rfl
    have po : PassesOwn (model P w) (cxOf (L2.CX P w) P w K mg base ["self", "number", "request", "sent", "call", "owner"] "Record.__init__" (defScope s_Record___init__) f cdv A outer s H E).A (cxOf (L2.CX P w) P w K mg base ["self", "number", "request", "sent", "call", "owner"] "Record.__init__" (defScope s_Record___init__) f cdv A outer s H E).env (cxOf (L2.CX P w) P w K mg base ["self", "number", "request", "sent", "call", "owner"] "Record.__init__" (defScope s_Record___init__) f cdv A outer s H E).xe := passes_of (X := (cxOf (L2.CX P w) P w K mg base ["self", "number", "request", "sent", "call", "owner"] "Record.__init__" (defScope s_Record___init__) f cdv A outer s H E)) rfl
    obtain ⟨a, dx, n, rq, sent, call, rfl, ha, k⟩ := h
    have c_Record := T.c_Record
    have a_Record_number := T.a_Record_number
    have a_Record_request := T.a_Record_request
    have a_Record_sent := T.a_Record_sent
    have a_Record_call := T.a_Record_call
    have a_Record_owner := T.a_Record_owner
    have a_Record_is_calling := T.a_Record_is_calling
    refine ⟨_, (pss_cons (q_sfld K (pv 0) (pv 1)) (pss_cons (q_sfld K (pv 0) (pv 2)) (pss_cons (q_sfld K (pv 0) (pv 3)) (pss_cons (q_sfld K (pv 0) (pv 4)) (pss_cons (q_sfld K (pv 0) (pv 5)) (pss_one (q_sfld K (pv 0) pe_bl))))))), ?_⟩
    refine g_start (σ' := some _ :: some _ :: some _ :: some _ :: some _ :: some _ :: []) rfl ?_
    walk_at "gb"
    simp only [upd_upd]
    exact k
end
section
variable {P : Program} {w : World} {K : PySem.W.Frag} {mg : Str → Option Value} {base : Heap}
theorem ok_Desk___init__ {f : Addr} {fd : FuncData} (F : FnP K "__init__" "Desk.__init__" s_Desk___init__ f fd) (T : Txt K mg)   : FnOk P w K mg base (L2.CX P w) 1 f fd ["self", "is_late"] (sp_Desk___init__ K) := by
  refine F.ok sc_Desk___init__ (fun vs H Q E h => ?_) (fun cdv A outer s H vs Q E hr h => ?_)
  · obtain ⟨a, dx, l, rfl, _⟩ := h
    rfl
  · have nd := sc_Desk___init__.nd
    have tk := takes_of (E := E) (X := (cxOf (L2.CX P w) P w K mg base ["self", "is_late"] "Desk.__init__" (defScope s_Desk___init__) f cdv A outer s H E)) rfl rfl rfl rfl
    have po : PassesOwn (model P w) (cxOf (L2.CX P w) P w K mg base ["self", "is_late"] "Desk.__init__" (defScope s_Desk___init__) f cdv A outer s H E).A (cxOf (L2.CX P w) P w K mg base ["self", "is_late"] "Desk.__init__" (defScope s_Desk___init__) f cdv A outer s H E).env (cxOf (L2.CX P w) P w K mg base ["self", "is_late"] "Desk.__init__" (defScope s_Desk___init__) f cdv A outer s H E).xe := passes_of (X := (cxOf (L2.CX P w) P w K mg base ["self", "is_late"] "Desk.__init__" (defScope s_Desk___init__) f cdv A outer s H E)) rfl
    obtain ⟨a, dx, l, rfl, ha, k⟩ := h
    have c_Desk := T.c_Desk
    have a_Desk_is_late := T.a_Desk_is_late
    have a_Desk_source := T.a_Desk_source
    have a_Desk_is_handling := T.a_Desk_is_handling
    refine ⟨_, (pss_cons (q_sfld K (pv 0) (pv 1)) (pss_cons (q_sfld K (pv 0) pe_non) (pss_one (q_sfld K (pv 0) pe_bl)))), ?_⟩
    refine g_start (σ' := some _ :: some _ :: []) rfl ?_
    walk_at "gb"
    simp only [upd_upd]
    exact k ""
end
section
variable {P : Program} {w : World} {K : PySem.W.Frag} {mg : Str → Option Value} {base : Heap}
theorem ok_AnswerObject___init__ {f : Addr} {fd : FuncData} (F : FnP K "__init__" "AnswerObject.__init__" s_AnswerObject___init__ f fd) (T : Txt K mg)   : FnOk P w K mg base (L2.CX P w) 1 f fd ["self", "broker", "record"] (sp_AnswerObject___init__ K) := by
  refine F.ok sc_AnswerObject___init__ (fun vs H Q E h => ?_) (fun cdv A outer s H vs Q E hr h => ?_)
  · obtain ⟨a, dx, b, r, rfl, _⟩ := h
    rfl
  · have nd := sc_AnswerObject___init__.nd
    have tk := takes_of (E := E) (X := (cxOf (L2.CX P w) P w K mg base ["self", "broker", "record"] "AnswerObject.__init__" (defScope s_AnswerObject___init__) f cdv A outer s H E)) rfl rfl rfl rfl
    have po : PassesOwn (model P w) (cxOf (L2.CX P w) P w K mg base ["self", "broker", "record"] "AnswerObject.__init__" (defScope s_AnswerObject___init__) f cdv A outer s H E).A (cxOf (L2.CX P w) P w K mg base ["self", "broker", "record"] "AnswerObject.__init__" (defScope s_AnswerObject___init__) f cdv A outer s H E).env (cxOf (L2.CX P w) P w K mg base ["self", "broker", "record"] "AnswerObject.__init__" (defScope s_AnswerObject___init__) f cdv A outer s H E).xe := passes_of (X := (cxOf (L2.CX P w) P w K mg base ["self", "broker", "record"] "AnswerObject.__init__" (defScope s_AnswerObject___init__) f cdv A outer s H E)) rfl
    obtain ⟨a, dx, b, r, rfl, ha, k⟩ := h
    have c_AnswerObject := T.c_AnswerObject
    have a_AnswerObject_broker := T.a_AnswerObject_broker
    have a_AnswerObject_record := T.a_AnswerObject_record
    refine ⟨_, (pss_cons (q_sfld K (pv 0) (pv 1)) (pss_one (q_sfld K (pv 0) (pv 2)))), ?_⟩
    refine g_start (σ' := some _ :: some _ :: some _ :: []) rfl ?_
    walk_at "gb"
    simp only [upd_upd]
    exact k
end
section
variable {P : Program} {w : World} {K : PySem.W.Frag} {mg : Str → Option Value} {base : Heap}
theorem ok_Handle___init__ {f : Addr} {fd : FuncData} (F : FnP K "__init__" "Handle.__init__" s_Handle___init__ f fd) (T : Txt K mg)   : FnOk P w K mg base (L2.CX P w) 1 f fd ["self", "broker", "record"] (sp_Handle___init__ K) := by
  refine F.ok sc_Handle___init__ (fun vs H Q E h => ?_) (fun cdv A outer s H vs Q E hr h => ?_)
  · obtain ⟨a, dx, b, n, r, rfl, _⟩ := h
    rfl
  · have nd := sc_Handle___init__.nd
    have tk := takes_of (E := E) (X := (cxOf (L2.CX P w) P w K mg base ["self", "broker", "record"] "Handle.__init__" (defScope s_Handle___init__) f cdv A outer s H E)) rfl rfl rfl rfl
    have po : PassesOwn (model P w) (cxOf (L2.CX P w) P w K mg base ["self", "broker", "record"] "Handle.__init__" (defScope s_Handle___init__) f cdv A outer s H E).A (cxOf (L2.CX P w) P w K mg base ["self", "broker", "record"] "Handle.__init__" (defScope s_Handle___init__) f cdv A outer s H E).env (cxOf (L2.CX P w) P w K mg base ["self", "broker", "record"] "Handle.__init__" (defScope s_Handle___init__) f cdv A outer s H E).xe := passes_of (X := (cxOf (L2.CX P w) P w K mg base ["self", "broker", "record"] "Handle.__init__" (defScope s_Handle___init__) f cdv A outer s H E)) rfl
    obtain ⟨a, dx, b, n, r, rfl, ha, hr, ne, k⟩ := h
    have c_Handle := T.c_Handle
    have a_Handle_broker := T.a_Handle_broker
    have a_Handle_record := T.a_Handle_record
    have a_Handle_request := T.a_Handle_request
    have a_Handle_sent := T.a_Handle_sent
    have c_Record := T.c_Record
    have a_Record_number := T.a_Record_number
    have a_Record_request := T.a_Record_request
    have a_Record_sent := T.a_Record_sent
    have a_Record_call := T.a_Record_call
    have a_Record_owner := T.a_Record_owner
    have a_Record_is_calling := T.a_Record_is_calling
    refine ⟨_, (pss_cons (q_sfld K (pv 0) (pv 1)) (pss_cons (q_sfld K (pv 0) (pv 2)) (pss_cons (q_sfld K (pv 0) (q_fld K (pv 2))) (pss_one (q_sfld K (pv 0) (q_fld K (pv 2))))))), ?_⟩
    refine g_start (σ' := some _ :: some _ :: some _ :: []) rfl ?_
    walk_at "gb"
    have hr2 : ∀ o, (upd H a o) r.a = some (r.o K n) := fun o => by rw [upd_ne ne]; exact hr
    simp only [upd_upd]
    have h1 := hr2 (.ins (He.ga K "Handle") dx [("broker", .ref b), ("record", .ref r.a)])
    walk_at "gb"
    exact k
end
section
variable {P : Program} {w : World} {K : PySem.W.Frag} {mg : Str → Option Value} {base : Heap}
theorem ok_Broker_is_idle {f : Addr} {fd : FuncData} (F : FnP K "is_idle" "Broker.is_idle" s_Broker_is_idle f fd) (T : Txt K mg)   : FnOk P w K mg base (L2.CX P w) 1 f fd ["self"] (sp_Broker_is_idle K) := by
  refine F.ok sc_Broker_is_idle (fun vs H Q E h => ?_) (fun cdv A outer s H vs Q E hr h => ?_)
  · obtain ⟨b, S, rfl, _⟩ := h
    rfl
  · have nd := sc_Broker_is_idle.nd
    have tk := takes_of (E := E) (X := (cxOf (L2.CX P w) P w K mg base ["self"] "Broker.is_idle" (defScope s_Broker_is_idle) f cdv A outer s H E)) rfl rfl rfl rfl
    have po : PassesOwn (model P w) (cxOf (L2.CX P w) P w K mg base ["self"] "Broker.is_idle" (defScope s_Broker_is_idle) f cdv A outer s H E).A (cxOf (L2.CX P w) P w K mg base ["self"] "Broker.is_idle" (defScope s_Broker_is_idle) f cdv A outer s H E).env (cxOf (L2.CX P w) P w K mg base ["self"] "Broker.is_idle" (defScope s_Broker_is_idle) f cdv A outer s H E).xe := passes_of (X := (cxOf (L2.CX P w) P w K mg base ["self"] "Broker.is_idle" (defScope s_Broker_is_idle) f cdv A outer s H E)) rfl
    obtain ⟨b, S, rfl, hb, k⟩ := h
    have c_Broker := T.c_Broker
    have a_Broker_names := T.a_Broker_names
    have a_Broker_desks := T.a_Broker_desks
    have a_Broker_entries := T.a_Broker_entries
    have a_Broker_entries_before := T.a_Broker_entries_before
    have a_Broker_made := T.a_Broker_made
    have a_Broker_depth := T.a_Broker_depth
    refine ⟨_, (pss_one (ps_ret (pe_cmpR (op_dEq K hr.units) (q_fld K (pv 0)) pe_int (nomark _)))), ?_⟩
    refine g_start (σ' := some _ :: []) rfl ?_
    walk_at "gb"
    exact k
end
section
variable {P : Program} {w : World} {K : PySem.W.Frag} {mg : Str → Option Value} {base : Heap}
theorem ok_Broker_is_current {f : Addr} {fd : FuncData} (F : FnP K "is_current" "Broker.is_current" s_Broker_is_current f fd) (T : Txt K mg)   : FnOk P w K mg base (L2.CX P w) 1 f fd ["self", "record"] (sp_Broker_is_current K) := by
  refine F.ok sc_Broker_is_current (fun vs H Q E h => ?_) (fun cdv A outer s H vs Q E hr h => ?_)
  · obtain ⟨b, l, S, n, r, rfl, _⟩ := h
    rfl
  · have nd := sc_Broker_is_current.nd
    have tk := takes_of (E := E) (X := (cxOf (L2.CX P w) P w K mg base ["self", "record", "entry"] "Broker.is_current" (defScope s_Broker_is_current) f cdv A outer s H E)) rfl rfl rfl rfl
    have po : PassesOwn (model P w) (cxOf (L2.CX P w) P w K mg base ["self", "record", "entry"] "Broker.is_current" (defScope s_Broker_is_current) f cdv A outer s H E).A (cxOf (L2.CX P w) P w K mg base ["self", "record", "entry"] "Broker.is_current" (defScope s_Broker_is_current) f cdv A outer s H E).env (cxOf (L2.CX P w) P w K mg base ["self", "record", "entry"] "Broker.is_current" (defScope s_Broker_is_current) f cdv A outer s H E).xe := passes_of (X := (cxOf (L2.CX P w) P w K mg base ["self", "record", "entry"] "Broker.is_current" (defScope s_Broker_is_current) f cdv A outer s H E)) rfl
    obtain ⟨b, l, S, n, r, rfl, B, hrn, k⟩ := h
    have c_Broker := T.c_Broker
    have a_Broker_names := T.a_Broker_names
    have a_Broker_desks := T.a_Broker_desks
    have a_Broker_entries := T.a_Broker_entries
    have a_Broker_entries_before := T.a_Broker_entries_before
    have a_Broker_made := T.a_Broker_made
    have a_Broker_depth := T.a_Broker_depth
    have c_Record := T.c_Record
    have a_Record_number := T.a_Record_number
    have a_Record_request := T.a_Record_request
    have a_Record_sent := T.a_Record_sent
    have a_Record_call := T.a_Record_call
    have a_Record_owner := T.a_Record_owner
    have a_Record_is_calling := T.a_Record_is_calling
    have hb := B.hb
    have hrr := B.rs n r hrn
    refine ⟨_, (pss_cons (q_set 2 nd (pe_dget1 (units1 hr.units) (q_fld K (pv 0)) (q_fld K (pv 1)) ⟨by rfl, by rfl, by rfl, by rfl⟩)) (pss_cons (ps_if (PW.pt (pw_or (pt_cmpR op_dIs (pv 2) pe_non (nomark _)) (pw_or1 (pt_cmpR (op_dNe K hr.units) (q_fld K (pe_ix (ix_dyn K) (pv 2) pe_int (fun _ _ => rfl))) (q_fld K (pv 1)) (nomark _))))) (pss_one (ps_ret pe_bl)) pss_nil) (pss_one (ps_ret (q_orT K (pe_cmpR op_dIs (q_fld K (pv 1)) pe_non (nomark _)) (pe_one (q_notT K (q_fld K (q_fld K (pv 1)))))))))), ?_⟩
    refine g_start (σ' := some _ :: some _ :: none :: []) rfl ?_
    walk_at "gb"
    refine g_isdk B.rd ?_
    walk_at "gb"
    refine g_dgk B.rd ?_
    rw [val_ekv]
    show tSeq _ _ _ _ _
    cases e : S.fe r.req with
    | none =>
      have e' : S.es.find? (fun e => decide (e.name = r.req)) = none := e
      have ec : S.cur n r = false := by unfold BSt.cur; rw [e]
      rw [ec] at k
      rw [e']
      walk_at "gb"
      exact k
    | some en =>
      have e' : S.es.find? (fun e => decide (e.name = r.req)) = some en := e
      have ec : S.cur n r = decide (en.num = n) := by unfold BSt.cur; rw [e]
      rw [ec] at k
      rw [e']
      obtain ⟨h1, h2, r2, h3, h4, h5⟩ := B.es en (fe_mem e).1
      have h6 := B.rs en.num r2 h3
      rw [h4] at h6
      simp only [Option.map_some, Option.getD_some, List.set_cons_succ, List.set_cons_zero]
      walk_at "gb"
      by_cases z : en.num = n
      · subst z
        rw [decide_eq_true rfl] at k
        walk_at "gb"
        exact k
      · rw [decide_eq_false z] at k
        refine iteT' (by simp only [Bool.not_eq_true', decide_eq_false_iff_not]; omega) ?_
        walk_at "gb"
        exact k
end
section
variable {P : Program} {w : World} {K : PySem.W.Frag} {mg : Str → Option Value} {base : Heap}
theorem ok_Broker_desk_of {f : Addr} {fd : FuncData} (F : FnP K "desk_of" "Broker.desk_of" s_Broker_desk_of f fd) (T : Txt K mg) (X_UnknownRequest : XC P w K mg base 1 "UnknownRequest" "name" (He.ga K "UnknownRequest"))  : FnOk P w K mg base (L2.CX P w) 3 f fd ["self", "name"] (sp_Broker_desk_of K) := by
  refine F.ok sc_Broker_desk_of (fun vs H Q E h => ?_) (fun cdv A outer s H vs Q E hr h => ?_)
  · obtain ⟨b, l, S, d, rfl, _⟩ := h
    rfl
  · have nd := sc_Broker_desk_of.nd
    have tk := takes_of (E := E) (X := (cxOf (L2.CX P w) P w K mg base ["self", "name"] "Broker.desk_of" (defScope s_Broker_desk_of) f cdv A outer s H E)) rfl rfl rfl rfl
    have po : PassesOwn (model P w) (cxOf (L2.CX P w) P w K mg base ["self", "name"] "Broker.desk_of" (defScope s_Broker_desk_of) f cdv A outer s H E).A (cxOf (L2.CX P w) P w K mg base ["self", "name"] "Broker.desk_of" (defScope s_Broker_desk_of) f cdv A outer s H E).env (cxOf (L2.CX P w) P w K mg base ["self", "name"] "Broker.desk_of" (defScope s_Broker_desk_of) f cdv A outer s H E).xe := passes_of (X := (cxOf (L2.CX P w) P w K mg base ["self", "name"] "Broker.desk_of" (defScope s_Broker_desk_of) f cdv A outer s H E)) rfl
    obtain ⟨b, l, S, d, rfl, B, hd, k⟩ := h
    have c_Broker := T.c_Broker
    have a_Broker_names := T.a_Broker_names
    have a_Broker_desks := T.a_Broker_desks
    have a_Broker_entries := T.a_Broker_entries
    have a_Broker_entries_before := T.a_Broker_entries_before
    have a_Broker_made := T.a_Broker_made
    have a_Broker_depth := T.a_Broker_depth
    have c_Desk := T.c_Desk
    have a_Desk_is_late := T.a_Desk_is_late
    have a_Desk_source := T.a_Desk_source
    have a_Desk_is_handling := T.a_Desk_is_handling
    have hb := B.hb
    have hn := B.hn
    have hdd := B.hd
    have hds := B.desk hd
    have hin : d.name ∈ S.ns := List.mem_map.mpr ⟨d, hd, rfl⟩
    refine ⟨_, (pss_cons (ps_if (pt_cmpR (op_dNotIn K) (pv 1) (q_fld K (pv 0)) (by rfl)) (pss_one (q_raise X_UnknownRequest tk (hr.mono (by decide)) (pa_cons (pv 1) pa_nil))) pss_nil) (pss_one (ps_ret (pe_dget (units1 hr.units) (q_fld K (pv 0)) (pv 1) (fun _ _ => rfl))))), ?_⟩
    refine g_start (σ' := some _ :: some _ :: []) rfl ?_
    walk_at "gb"
    refine iteF' (by simp only [Bool.not_eq_false', decide_eq_true_eq]; exact hin) ?_
    walk_at "gb"
    exact k
end
section
variable {P : Program} {w : World} {K : PySem.W.Frag} {mg : Str → Option Value} {base : Heap}
theorem ok_Broker_open_entries {f : Addr} {fd : FuncData} (F : FnP K "open_entries" "Broker.open_entries" s_Broker_open_entries f fd) (T : Txt K mg) (N_Broker_is_current : MtC P w K mg base 1 (He.ga K "Broker") "is_current" ["self", "record"] (sp_Broker_is_current K))  : FnOk P w K mg base (L2.CX P w) 2 f fd ["self"] (sp_Broker_open_entries K) := by
  refine F.ok sc_Broker_open_entries (fun vs H Q E h => ?_) (fun cdv A outer s H vs Q E hr h => ?_)
  · obtain ⟨b, S, rfl, _⟩ := h
    rfl
  · have nd := sc_Broker_open_entries.nd
    have tk := takes_of (E := E) (X := (cxOf (L2.CX P w) P w K mg base ["self", "entry"] "Broker.open_entries" (defScope s_Broker_open_entries) f cdv A outer s H E)) rfl rfl rfl rfl
    have po : PassesOwn (model P w) (cxOf (L2.CX P w) P w K mg base ["self", "entry"] "Broker.open_entries" (defScope s_Broker_open_entries) f cdv A outer s H E).A (cxOf (L2.CX P w) P w K mg base ["self", "entry"] "Broker.open_entries" (defScope s_Broker_open_entries) f cdv A outer s H E).env (cxOf (L2.CX P w) P w K mg base ["self", "entry"] "Broker.open_entries" (defScope s_Broker_open_entries) f cdv A outer s H E).xe := passes_of (X := (cxOf (L2.CX P w) P w K mg base ["self", "entry"] "Broker.open_entries" (defScope s_Broker_open_entries) f cdv A outer s H E)) rfl
    obtain ⟨b, S, rfl, B, k⟩ := h
    have c_Broker := T.c_Broker
    have a_Broker_names := T.a_Broker_names
    have a_Broker_desks := T.a_Broker_desks
    have a_Broker_entries := T.a_Broker_entries
    have a_Broker_entries_before := T.a_Broker_entries_before
    have a_Broker_made := T.a_Broker_made
    have a_Broker_depth := T.a_Broker_depth
    have hb := B.hb
    refine ⟨_, (pss_one (ps_ret (pe_lock (pe_lc (own := [("entry", 1)]) rfl nd (pi_values (q_fld K (pv 0))) (blkOk_by (own := [("entry", 1)]) (N := ["self", "entry"]) (sc := defScope s_Broker_open_entries) (by decide +kernel)) (fun _ _ _ _ _ => (q_name 1 nd)) (fun _ _ _ _ _ => (pts_one (q_truth K (q_meth N_Broker_is_current takes0 (hr.mono (by decide)) (pv 0) (pa_cons (pe_ix (ix_dyn K) (pv 1) pe_int (fun _ _ => rfl)) pa_nil))))) (fun _ _ _ _ _ => (pv 1)))))), ?_⟩
    refine g_start (σ' := some _ :: none :: []) rfl ?_
    walk_at "gb"
    refine g_lockE (u := .dK (ekv S.es)) B.he True.intro fun od => ?_
    have B1 := B.lock od
    have hb1 := B1.hb
    have hne : S.en ≠ b := Ne.symm (B.ne_en B.hb (fun _ z => nomatch z) fun _ _ z => nomatch z)
    walk_at "gb"
    intro D hD
    have hDn : D ≠ S.en := fun z => by rw [z, upd_same] at hD; cases hD
    have hD0 : H D = none := by rw [upd_ne hDn] at hD; exact hD
    refine lc_vals (fun i H' => H' = upd (upd H S.en (.frz od (.dK (ekv S.es)))) D (.lst ((S.es.take i).map fun e => .ref e.tup))) rfl (fun i H' hi e => by subst e; rw [upd_ne hDn.symm]; exact upd_same) (fun i k v H' hkv e => ?_) (fun H' e => ?_)
    · subst e
      obtain ⟨e, he, hk⟩ := ekv_at hkv
      cases hk
      obtain ⟨h1, h2, r2, h3, h4, h5⟩ := B.es e (List.mem_of_getElem? he)
      have B2 := B1.ed0 (Ed.new (o := .lst ((S.es.take i).map fun e => V.ref e.tup)) hD)
      have hb2 := B2.hb
      obtain ⟨h1', h2', _⟩ := B2.es e (List.mem_of_getElem? he)
      have hc := B2.cur_e (List.mem_of_getElem? he) h3
      simp only [wipe_cons, wipe_nil, List.map_cons, List.map_nil, List.set_cons_succ, List.set_cons_zero]
      walk_at "gb"
      refine ⟨by first | rfl | walk_at "wipe", ?_⟩
      walk_at "gb"
      refine ⟨b, some od, S, e.num, r2, by rw [h4], B2, h3, ?_⟩
      rw [hc]
      walk_at "gb"
      refine ⟨_, upd_same, by rw [List.length_map, List.length_take, sizeLine_eq]; have := B.es_len; omega, ?_⟩
      rw [upd_upd, List.take_succ, he, List.map_append]
      rfl
    · subst e
      rw [List.length_map, List.take_length]
      refine ⟨by rw [upd_ne hDn.symm]; exact upd_same, k D _ hD0 ⟨fun a o _ h => ?_, fun a h => ?_⟩ ?_⟩
      · by_cases ha : a = S.en
        · subst ha; rw [upd_same, ← h]; exact B.he.symm
        · rw [upd_ne ha, upd_ne (ne_of_none h hD0), upd_ne ha]; exact h
      · by_cases ha : a = S.en
        · subst ha; rw [upd_same]; simp
        · rw [upd_ne ha]
          by_cases hd : a = D
          · subst hd; rw [upd_same]; simp
          · rw [upd_ne hd, upd_ne ha]; exact h
      · rw [upd_ne hDn, upd_same]
end
section
variable {P : Program} {w : World} {K : PySem.W.Frag} {mg : Str → Option Value} {base : Heap}
theorem ok_Broker_open_entry {f : Addr} {fd : FuncData} (F : FnP K "open_entry" "Broker.open_entry" s_Broker_open_entry f fd) (T : Txt K mg) (N_Broker_open_entries : MtC P w K mg base 2 (He.ga K "Broker") "open_entries" ["self"] (sp_Broker_open_entries K))  : FnOk P w K mg base (L2.CX P w) 3 f fd ["self", "name"] (sp_Broker_open_entry K) := by
  refine F.ok sc_Broker_open_entry (fun vs H Q E h => ?_) (fun cdv A outer s H vs Q E hr h => ?_)
  · obtain ⟨b, S, nm, rfl, _⟩ := h
    rfl
  · have nd := sc_Broker_open_entry.nd
    have tk := takes_of (E := E) (X := (cxOf (L2.CX P w) P w K mg base ["self", "name", "entry"] "Broker.open_entry" (defScope s_Broker_open_entry) f cdv A outer s H E)) rfl rfl rfl rfl
    have po : PassesOwn (model P w) (cxOf (L2.CX P w) P w K mg base ["self", "name", "entry"] "Broker.open_entry" (defScope s_Broker_open_entry) f cdv A outer s H E).A (cxOf (L2.CX P w) P w K mg base ["self", "name", "entry"] "Broker.open_entry" (defScope s_Broker_open_entry) f cdv A outer s H E).env (cxOf (L2.CX P w) P w K mg base ["self", "name", "entry"] "Broker.open_entry" (defScope s_Broker_open_entry) f cdv A outer s H E).xe := passes_of (X := (cxOf (L2.CX P w) P w K mg base ["self", "name", "entry"] "Broker.open_entry" (defScope s_Broker_open_entry) f cdv A outer s H E)) rfl
    obtain ⟨b, S, nm, rfl, B, k⟩ := h
    have c_Broker := T.c_Broker
    have a_Broker_names := T.a_Broker_names
    have a_Broker_desks := T.a_Broker_desks
    have a_Broker_entries := T.a_Broker_entries
    have a_Broker_entries_before := T.a_Broker_entries_before
    have a_Broker_made := T.a_Broker_made
    have a_Broker_depth := T.a_Broker_depth
    have c_Record := T.c_Record
    have a_Record_number := T.a_Record_number
    have a_Record_request := T.a_Record_request
    have a_Record_sent := T.a_Record_sent
    have a_Record_call := T.a_Record_call
    have a_Record_owner := T.a_Record_owner
    have a_Record_is_calling := T.a_Record_is_calling
    have hb := B.hb
    refine ⟨_, (pss_cons (ps_for po rfl (q_list K (q_meth0 N_Broker_open_entries tk (hr.mono (by decide)) (pv 0))) (q_name 2 nd) (pss_one (ps_if (pt_cmpR (op_dEq K hr.units) (q_fld K (pe_ix (ix_dyn K) (pv 2) pe_int (fun _ _ => rfl))) (pv 1) (nomark _)) (pss_one (ps_ret (pv 2))) pss_nil))) (pss_one (ps_ret pe_non))), ?_⟩
    refine g_start (σ' := some _ :: some _ :: none :: []) rfl ?_
    walk_at "gb"
    refine ⟨b, S, rfl, B, fun p H1 hp e1 hp1 => ?_⟩
    have B1 := B.ed0 e1
    walk_at "gb"
    refine lp_it (walk_list (xs := S.es.map fun e => V.ref e.tup)) (fun i σ' H' => H' = H1 ∧ (∃ v, σ' = [some (.ref b), some (.str nm), v]) ∧ ∀ e ∈ S.es.take i, e.name ≠ nm) ⟨rfl, ⟨_, rfl⟩, fun e he => by cases he⟩ (fun i σ' H' hi hh => by obtain ⟨rfl, _⟩ := hh; exact SqL.of hp1) (fun i x σ' H' H2 hi hh hy => ?_) (fun σ' H' hh => ?_)
    · obtain ⟨rfl, ⟨v, rfl⟩, hno⟩ := hh
      obtain ⟨rfl, hx⟩ := hy
      rw [List.getElem?_map] at hx
      cases he : S.es[i]? with
      | none => rw [he] at hx; cases hx
      | some e =>
        rw [he] at hx
        cases hx
        have hem := List.mem_of_getElem? he
        obtain ⟨h1, h2, r2, h3, h4, h5⟩ := B1.es e hem
        have h6 := B1.rs e.num r2 h3
        rw [h4] at h6
        walk_at "gb"
        by_cases z : r2.req = nm
        · refine iteT' (decide_eq_true z) ?_
          walk_at "gb"
          have hf := fe_at B.ee hem
          rw [h5.symm.trans z] at hf
          have k2 := k _ e1
          rw [hf] at k2
          exact k2
        · refine iteF' (decide_eq_false z) ?_
          walk_at "gb"
          refine ⟨rfl, ⟨_, rfl⟩, fun x hx => ?_⟩
          rw [List.take_succ, he] at hx
          rcases List.mem_append.mp hx with hx | hx
          · exact hno x hx
          · have : x = e := by simpa using hx
            rw [this, ← h5]; exact z
    · obtain ⟨rfl, ⟨v, rfl⟩, hno⟩ := hh
      walk_at "gb"
      have hf : S.fe nm = none := List.find?_eq_none.mpr fun e he => by
        have := hno e (by rw [List.length_map, List.take_length]; exact he)
        simpa using this
      have k2 := k _ e1
      rw [hf] at k2
      exact k2
end
section
variable {P : Program} {w : World} {K : PySem.W.Frag} {mg : Str → Option Value} {base : Heap}
theorem ok_Broker___contains__ {f : Addr} {fd : FuncData} (F : FnP K "__contains__" "Broker.__contains__" s_Broker___contains__ f fd) (T : Txt K mg) (N_Broker_open_entry : MtC P w K mg base 3 (He.ga K "Broker") "open_entry" ["self", "name"] (sp_Broker_open_entry K))  : FnOk P w K mg base (L2.CX P w) 4 f fd ["self", "name"] (sp_Broker___contains__ K) := by
  refine F.ok sc_Broker___contains__ (fun vs H Q E h => ?_) (fun cdv A outer s H vs Q E hr h => ?_)
  · obtain ⟨b, S, nm, rfl, _⟩ := h
    rfl
  · have nd := sc_Broker___contains__.nd
    have tk := takes_of (E := E) (X := (cxOf (L2.CX P w) P w K mg base ["self", "name"] "Broker.__contains__" (defScope s_Broker___contains__) f cdv A outer s H E)) rfl rfl rfl rfl
    have po : PassesOwn (model P w) (cxOf (L2.CX P w) P w K mg base ["self", "name"] "Broker.__contains__" (defScope s_Broker___contains__) f cdv A outer s H E).A (cxOf (L2.CX P w) P w K mg base ["self", "name"] "Broker.__contains__" (defScope s_Broker___contains__) f cdv A outer s H E).env (cxOf (L2.CX P w) P w K mg base ["self", "name"] "Broker.__contains__" (defScope s_Broker___contains__) f cdv A outer s H E).xe := passes_of (X := (cxOf (L2.CX P w) P w K mg base ["self", "name"] "Broker.__contains__" (defScope s_Broker___contains__) f cdv A outer s H E)) rfl
    obtain ⟨b, S, nm, rfl, B, k⟩ := h
    have c_Broker := T.c_Broker
    have a_Broker_names := T.a_Broker_names
    have a_Broker_desks := T.a_Broker_desks
    have a_Broker_entries := T.a_Broker_entries
    have a_Broker_entries_before := T.a_Broker_entries_before
    have a_Broker_made := T.a_Broker_made
    have a_Broker_depth := T.a_Broker_depth
    have hb := B.hb
    refine ⟨_, (pss_one (ps_ret (pe_cmpR op_dIsNot (q_meth N_Broker_open_entry tk (hr.mono (by decide)) (pv 0) (pa_cons (pv 1) pa_nil)) pe_non (nomark _)))), ?_⟩
    refine g_start (σ' := some _ :: some _ :: []) rfl ?_
    walk_at "gb"
    refine ⟨b, S, nm, rfl, B, fun H1 e1 => ?_⟩
    have k2 := k H1 e1
    unfold BSt.has at k2
    cases e : S.fe nm with
    | none => rw [e] at k2; walk_at "gb"; exact k2
    | some x => rw [e] at k2; walk_at "gb"; exact k2
end
section
variable {P : Program} {w : World} {K : PySem.W.Frag} {mg : Str → Option Value} {base : Heap}
theorem ok_Broker___len__ {f : Addr} {fd : FuncData} (F : FnP K "__len__" "Broker.__len__" s_Broker___len__ f fd) (T : Txt K mg) (N_Broker_open_entries : MtC P w K mg base 2 (He.ga K "Broker") "open_entries" ["self"] (sp_Broker_open_entries K))  : FnOk P w K mg base (L2.CX P w) 3 f fd ["self"] (sp_Broker___len__ K) := by
  refine F.ok sc_Broker___len__ (fun vs H Q E h => ?_) (fun cdv A outer s H vs Q E hr h => ?_)
  · obtain ⟨b, S, rfl, _⟩ := h
    rfl
  · have nd := sc_Broker___len__.nd
    have tk := takes_of (E := E) (X := (cxOf (L2.CX P w) P w K mg base ["self"] "Broker.__len__" (defScope s_Broker___len__) f cdv A outer s H E)) rfl rfl rfl rfl
    have po : PassesOwn (model P w) (cxOf (L2.CX P w) P w K mg base ["self"] "Broker.__len__" (defScope s_Broker___len__) f cdv A outer s H E).A (cxOf (L2.CX P w) P w K mg base ["self"] "Broker.__len__" (defScope s_Broker___len__) f cdv A outer s H E).env (cxOf (L2.CX P w) P w K mg base ["self"] "Broker.__len__" (defScope s_Broker___len__) f cdv A outer s H E).xe := passes_of (X := (cxOf (L2.CX P w) P w K mg base ["self"] "Broker.__len__" (defScope s_Broker___len__) f cdv A outer s H E)) rfl
    obtain ⟨b, S, rfl, B, k⟩ := h
    have c_Broker := T.c_Broker
    have a_Broker_names := T.a_Broker_names
    have a_Broker_desks := T.a_Broker_desks
    have a_Broker_entries := T.a_Broker_entries
    have a_Broker_entries_before := T.a_Broker_entries_before
    have a_Broker_made := T.a_Broker_made
    have a_Broker_depth := T.a_Broker_depth
    have hb := B.hb
    refine ⟨_, (pss_one (ps_ret (pe_callB (cl_len K) (by rfl) T.n_len bt_len (pa_cons (q_meth0 N_Broker_open_entries tk (hr.mono (by decide)) (pv 0)) pa_nil)))), ?_⟩
    refine g_start (σ' := some _ :: []) rfl ?_
    walk_at "gb"
    refine ⟨b, S, rfl, B, fun p H1 hp e1 hp1 => ?_⟩
    have k2 := k H1 e1
    walk_at "gb"
    rw [List.length_map]
    exact k2
end
section
variable {P : Program} {w : World} {K : PySem.W.Frag} {mg : Str → Option Value} {base : Heap}
theorem ok_Broker_close {f : Addr} {fd : FuncData} (F : FnP K "close" "Broker.close" s_Broker_close f fd) (T : Txt K mg)   : FnOk P w K mg base (L2.CX P w) 1 f fd ["self", "record"] (sp_Broker_close K) := by
  refine F.ok sc_Broker_close (fun vs H Q E h => ?_) (fun cdv A outer s H vs Q E hr h => ?_)
  · obtain ⟨b, S, n, r, rfl, _⟩ := h
    rfl
  · have nd := sc_Broker_close.nd
    have tk := takes_of (E := E) (X := (cxOf (L2.CX P w) P w K mg base ["self", "record", "name", "entry"] "Broker.close" (defScope s_Broker_close) f cdv A outer s H E)) rfl rfl rfl rfl
    have po : PassesOwn (model P w) (cxOf (L2.CX P w) P w K mg base ["self", "record", "name", "entry"] "Broker.close" (defScope s_Broker_close) f cdv A outer s H E).A (cxOf (L2.CX P w) P w K mg base ["self", "record", "name", "entry"] "Broker.close" (defScope s_Broker_close) f cdv A outer s H E).env (cxOf (L2.CX P w) P w K mg base ["self", "record", "name", "entry"] "Broker.close" (defScope s_Broker_close) f cdv A outer s H E).xe := passes_of (X := (cxOf (L2.CX P w) P w K mg base ["self", "record", "name", "entry"] "Broker.close" (defScope s_Broker_close) f cdv A outer s H E)) rfl
    obtain ⟨b, S, n, r, rfl, B, hrr, k⟩ := h
    have c_Broker := T.c_Broker
    have a_Broker_names := T.a_Broker_names
    have a_Broker_desks := T.a_Broker_desks
    have a_Broker_entries := T.a_Broker_entries
    have a_Broker_entries_before := T.a_Broker_entries_before
    have a_Broker_made := T.a_Broker_made
    have a_Broker_depth := T.a_Broker_depth
    have c_Record := T.c_Record
    have a_Record_number := T.a_Record_number
    have a_Record_request := T.a_Record_request
    have a_Record_sent := T.a_Record_sent
    have a_Record_call := T.a_Record_call
    have a_Record_owner := T.a_Record_owner
    have a_Record_is_calling := T.a_Record_is_calling
    have hb := B.hb
    refine ⟨_, (pss_one (q_sfld K (pv 0) (pe_lock (pe_dc (own := [("name", 2), ("entry", 3)]) rfl nd (pi_items (q_fld K (pv 0))) (blkOk_by (own := [("name", 2), ("entry", 3)]) (N := ["self", "record", "name", "entry"]) (sc := defScope s_Broker_close) (by decide +kernel)) (fun _ _ _ _ _ => (q_gtup K 2 (pgs_cons (q_name 2 nd) (pgs_cons (q_name 3 nd) pgs_nil)))) (fun _ _ _ _ _ => (pts_one (pt_cmpR (op_dNe K hr.units) (pv 2) (q_fld K (pv 1)) (nomark _)))) (fun _ _ _ _ _ => (pv 2)) (fun _ _ _ _ _ => (pv 3)))))), ?_⟩
    refine g_start (σ' := some _ :: some _ :: none :: none :: []) rfl ?_
    walk_at "gb"
    refine g_lockE (u := .dK (ekv S.es)) B.he True.intro fun od => ?_
    have B1 := B.lock od
    have hb1 := B1.hb
    have hne : S.en ≠ b := Ne.symm (B.ne_en B.hb (fun _ z => nomatch z) fun _ _ z => nomatch z)
    walk_at "gb"
    intro D hD
    have hDn : D ≠ S.en := fun z => by rw [z, upd_same] at hD; cases hD
    have hD0 : H D = none := by rw [upd_ne hDn] at hD; exact hD
    refine dc_items (fun i H' => Pcl (upd H S.en (.frz od (.dK (ekv S.es)))) D (ekv ((S.es.take i).filter fun e => !decide (e.name = r.req))) H') (.start hD) (fun i H' hi p => p.keep _ _ hDn.symm upd_same) (fun i k v T H' hkv p hT => ?_) (fun H' p => ?_)
    · obtain ⟨e, he, hk⟩ := ekv_at hkv
      cases hk
      have hem := List.mem_of_getElem? he
      have hTD : T ≠ D := fun z => by rw [z, p.at_] at hT; cases hT
      have hr2 : (upd H' T (.tup [kV (Sum.inr e.name), V.ref e.tup])) r.a = some (r.o K n) := by
        have h1 : H r.a = some (r.o K n) := hrr
        have h2 : r.a ≠ S.en := B.ne_en h1 (fun _ z => nomatch z) fun _ _ z => nomatch z
        have h3 := p.keep r.a _ (ne_of_none h1 hD0) (by rw [upd_ne h2]; exact h1)
        rw [upd_ne (ne_of_none h3 hT)]
        exact h3
      have ek : kV (Sum.inr e.name) = V.str e.name := rfl
      rw [ek] at hr2 ⊢
      simp only [wipe_cons, wipe_nil, List.map_cons, List.map_nil, List.set_cons_succ, List.set_cons_zero]
      refine g_gtup (SqT.of upd_same) rfl ?_
      walk_at "gb"
      refine ⟨by first | rfl | walk_at "wipe", ?_⟩
      walk_at "gb"
      have hlen : ((S.es.take i).filter fun e => !decide (e.name = r.req)).length < sizeLine := by
        have := List.length_filter_le (fun e => !decide (e.name = r.req)) (S.es.take i)
        have := B.es_len
        rw [List.length_take] at *
        rw [sizeLine_eq]
        omega
      by_cases z : e.name = r.req
      · refine iteF' (by simp [z]) ?_
        rw [List.take_succ, he, List.filter_append]
        have : ([e].filter fun e => !decide (e.name = r.req)) = [] := by simp [z]
        show Pcl _ _ (ekv (_ ++ [e].filter _)) _
        rw [this, List.append_nil]
        exact p.new hT
      · refine iteT' (by simp [z]) ?_
        walk_at "gb"
        refine ⟨_, Sum.inr e.name, rfl, by rw [upd_ne hTD.symm]; exact p.at_, by rw [List.length_map]; exact hlen, ?_⟩
        rw [List.take_succ, he, List.filter_append]
        have : ([e].filter fun e => !decide (e.name = r.req)) = [e] := by simp [z]
        show Pcl _ _ (ekv (_ ++ [e].filter _)) _
        rw [this, ekv_put (fun x hx => ?_)]
        · exact (p.new hT).put
        · have hx := (List.mem_filter.mp hx).1
          obtain ⟨j, hm, hj⟩ := List.mem_take_iff_getElem.mp hx
          intro zz
          have hnd := B.ee
          have e1 : (S.es.map (·.name))[j]? = some e.name := by rw [List.getElem?_map, List.getElem?_eq_getElem (by omega), hj, ← zz]; rfl
          have e2 : (S.es.map (·.name))[i]? = some e.name := by rw [List.getElem?_map, he]; rfl
          have := (List.getElem?_inj (by rw [List.length_map]; omega) hnd).mp (e1.trans e2.symm)
          omega
    · have lz : (ekv S.es).length = S.es.length := List.length_map ..
      rw [lz, List.take_length] at p
      refine ⟨p.keep _ _ hDn.symm upd_same, ?_⟩
      have e2 : Ed [] H (upd H' S.en (.dK (ekv S.es))) := by
        refine ⟨fun a o _ h => ?_, fun a h => ?_⟩
        · by_cases ha : a = S.en
          · subst ha; rw [upd_same, ← h]; exact B.he.symm
          · rw [upd_ne ha]; exact p.keep a o (ne_of_none h hD0) (by rw [upd_ne ha]; exact h)
        · by_cases ha : a = S.en
          · subst ha; rw [upd_same]; simp
          · rw [upd_ne ha]; exact p.live a (by rw [upd_ne ha]; exact h)
      have hD2 : (upd H' S.en (.dK (ekv S.es))) D = some (.dK (ekv (S.closed r.req D).es)) := by rw [upd_ne hDn]; exact p.at_
      generalize upd H' S.en (.dK (ekv S.es)) = H2 at e2 hD2
      have B2 := B.ed0 e2
      have hb2 := B2.hb
      have nD : D ≠ b := fun z => by rw [z, hb] at hD0; cases hD0
      have dD : S.dd ≠ D := fun z => by rw [← z, B.hd] at hD0; cases hD0
      walk_at "gb"
      refine k D _ hD0 ((Eo.ed0 e2).tr (Eo.put hb2 rfl)) (fun a o n h => by rw [upd_ne n]; exact e2.get List.not_mem_nil h) ?_
      exact B2.setB (S' := S.closed r.req D) (l' := none) rfl rfl rfl rfl hD2 nD (fun e he => B2.es e (List.mem_filter.mp he).1) ((List.filter_sublist.map _).nodup B.ee) (fun e he => B.en e (List.mem_filter.mp he).1) dD
end
section
variable {P : Program} {w : World} {K : PySem.W.Frag} {mg : Str → Option Value} {base : Heap}
theorem ok_law_source__law_keep {f : Addr} (T : Txt K mg) (N_Broker___contains__ : MtC P w K mg base 4 (He.ga K "Broker") "__contains__" ["self", "name"] (sp_Broker___contains__ K)) (P_Broker_is_idle : PrC P w K mg base 1 (He.ga K "Broker") "is_idle" ["self"] (sp_Broker_is_idle K)) : ∀ (cl : List (Str × Addr)) (c : Addr), MOk P w K mg base 5 f (mf_law_source__law_keep cl c) ["_law_sent", "_law_answer"] ["_law_broker_here", "_law_held", "_law_log", "_law_name"] (fun ws vs H Q E => ∃ ws', ws = ws'.map some ∧ sp_law_source__law_keep K ws' vs H Q E) := by
  intro cl c
  refine mok_def rfl sc_law_source__law_keep (fun doc pm ctv us hl => match us, hl with | [_, _], _ => rfl) (fun ws vs H Q E h => ?_) (fun A outer s H vs ws Q E hr hl0 h => ?_)
  · obtain ⟨ws', _, h⟩ := h
    obtain ⟨b, held, log, nm, sent, ans, S, xs, ys, _, rfl, _⟩ := h
    rfl
  · obtain ⟨ws', ews, h⟩ := h
    subst ews
    have nd := sc_law_source__law_keep.nd
    have tk := takes_of (E := E) (X := mcx P w K mg base ["_law_sent", "_law_answer", "_law_broker_here", "_law_held", "_law_log", "_law_name"] (mf_law_source__law_keep cl c) f A outer s H E) rfl rfl rfl rfl
    have po : PassesOwn (model P w) (mcx P w K mg base ["_law_sent", "_law_answer", "_law_broker_here", "_law_held", "_law_log", "_law_name"] (mf_law_source__law_keep cl c) f A outer s H E).A (mcx P w K mg base ["_law_sent", "_law_answer", "_law_broker_here", "_law_held", "_law_log", "_law_name"] (mf_law_source__law_keep cl c) f A outer s H E).env (mcx P w K mg base ["_law_sent", "_law_answer", "_law_broker_here", "_law_held", "_law_log", "_law_name"] (mf_law_source__law_keep cl c) f A outer s H E).xe := passes_of (X := mcx P w K mg base ["_law_sent", "_law_answer", "_law_broker_here", "_law_held", "_law_log", "_law_name"] (mf_law_source__law_keep cl c) f A outer s H E) rfl
    obtain ⟨b, held, log, nm, sent, ans, S, xs, ys, rfl, rfl, B, hl, hh, ne, n1, n2, z1, z2, k⟩ := h
    have c_Broker := T.c_Broker
    have a_Broker_names := T.a_Broker_names
    have a_Broker_desks := T.a_Broker_desks
    have a_Broker_entries := T.a_Broker_entries
    have a_Broker_entries_before := T.a_Broker_entries_before
    have a_Broker_made := T.a_Broker_made
    have a_Broker_depth := T.a_Broker_depth
    have hb := B.hb
    refine ⟨_, (pss_cons (ps_expr (q_bm K PySem.F.plainAttrs_list PySem.F.slot_list_append PySem.F.type_list_append m_append (pv 4) (pa_cons (pe_tup (pa_cons pe_str (pa_cons (pv 5) (pa_cons (pv 0) (pa_cons (q_inO N_Broker___contains__ tk (hr.mono (by decide)) (pv 5) (pv 2)) (pa_cons (q_prop P_Broker_is_idle (hr.mono (by decide)) (pv 2)) pa_nil)))))) pa_nil))) (pss_one (ps_expr (q_bm K PySem.F.plainAttrs_list PySem.F.slot_list_append PySem.F.type_list_append m_append (pv 3) (pa_cons (pv 1) pa_nil))))), ?_⟩
    refine g_start (σ' := some _ :: some _ :: some _ :: some _ :: some _ :: some _ :: []) rfl ?_
    walk_at "gb"
    refine ⟨b, S, nm, rfl, B, fun H1 e1 => ⟨_, rfl, ?_⟩⟩
    have B1 := B.ed0 e1
    have hb1 := B1.hb
    walk_at "gb"
    refine ⟨b, S, rfl, hb1, ?_⟩
    walk_at "gb"
    refine ⟨Nat.le_of_ble_eq_true rfl, fun t ht => ?_⟩
    have ht0 : H t = none := e1.free ht
    have hl1 := e1.get List.not_mem_nil hl
    have hh1 := e1.get List.not_mem_nil hh
    have nt1 : log ≠ t := ne_of_none hl1 ht
    have nt2 : held ≠ t := ne_of_none hh1 ht
    walk_at "gb"
    refine k t _ ht0 ⟨fun a o n h => ?_, fun a h => ?_⟩ ?_ ?_ upd_same
    · have n1 : a ≠ log := fun z => n (by rw [z]; simp)
      have n2 : a ≠ held := fun z => n (by rw [z]; simp)
      have h1 := e1.get List.not_mem_nil h
      rw [upd_ne n2, upd_ne n1, upd_ne (ne_of_none h1 ht)]
      exact h1
    · exact Ed.put.2 _ (Ed.put.2 _ ((Ed.new ht).2 _ (e1.2 _ h)))
    · rw [upd_ne nt2.symm, upd_ne nt1.symm, upd_same]
    · rw [upd_ne ne, upd_same]
end
section
variable {P : Program} {w : World} {K : PySem.W.Frag} {mg : Str → Option Value} {base : Heap}
theorem ok_law_call__law_told {f : Addr} (T : Txt K mg) (N_Broker___contains__ : MtC P w K mg base 4 (He.ga K "Broker") "__contains__" ["self", "name"] (sp_Broker___contains__ K)) (P_Broker_is_idle : PrC P w K mg base 1 (He.ga K "Broker") "is_idle" ["self"] (sp_Broker_is_idle K)) : ∀ (cl : List (Str × Addr)) (c : Addr), MOk P w K mg base 5 f (mf_law_call__law_told cl c) ["_law_sent", "_law_got"] ["_law_broker_here", "_law_log", "_law_mark", "_law_name"] (fun ws vs H Q E => ∃ ws', ws = ws'.map some ∧ sp_law_call__law_told K ws' vs H Q E) := by
  intro cl c
  refine mok_def rfl sc_law_call__law_told (fun doc pm ctv us hl => match us, hl with | [_, _], _ => rfl) (fun ws vs H Q E h => ?_) (fun A outer s H vs ws Q E hr hl0 h => ?_)
  · obtain ⟨ws', _, h⟩ := h
    obtain ⟨b, log, mark, nm, sent, got, S, xs, _, rfl, _⟩ := h
    rfl
  · obtain ⟨ws', ews, h⟩ := h
    subst ews
    have nd := sc_law_call__law_told.nd
    have tk := takes_of (E := E) (X := mcx P w K mg base ["_law_sent", "_law_got", "_law_broker_here", "_law_log", "_law_mark", "_law_name"] (mf_law_call__law_told cl c) f A outer s H E) rfl rfl rfl rfl
    have po : PassesOwn (model P w) (mcx P w K mg base ["_law_sent", "_law_got", "_law_broker_here", "_law_log", "_law_mark", "_law_name"] (mf_law_call__law_told cl c) f A outer s H E).A (mcx P w K mg base ["_law_sent", "_law_got", "_law_broker_here", "_law_log", "_law_mark", "_law_name"] (mf_law_call__law_told cl c) f A outer s H E).env (mcx P w K mg base ["_law_sent", "_law_got", "_law_broker_here", "_law_log", "_law_mark", "_law_name"] (mf_law_call__law_told cl c) f A outer s H E).xe := passes_of (X := mcx P w K mg base ["_law_sent", "_law_got", "_law_broker_here", "_law_log", "_law_mark", "_law_name"] (mf_law_call__law_told cl c) f A outer s H E) rfl
    obtain ⟨b, log, mark, nm, sent, got, S, xs, rfl, rfl, B, hl, n1, z1, k⟩ := h
    have c_Broker := T.c_Broker
    have a_Broker_names := T.a_Broker_names
    have a_Broker_desks := T.a_Broker_desks
    have a_Broker_entries := T.a_Broker_entries
    have a_Broker_entries_before := T.a_Broker_entries_before
    have a_Broker_made := T.a_Broker_made
    have a_Broker_depth := T.a_Broker_depth
    have hb := B.hb
    refine ⟨_, (pss_one (ps_expr (q_bm K PySem.F.plainAttrs_list PySem.F.slot_list_append PySem.F.type_list_append m_append (pv 3) (pa_cons (pe_tup (pa_cons pe_str (pa_cons (pv 4) (pa_cons (pv 0) (pa_cons (pv 1) (pa_cons (q_inO N_Broker___contains__ tk (hr.mono (by decide)) (pv 5) (pv 2)) (pa_cons (q_prop P_Broker_is_idle (hr.mono (by decide)) (pv 2)) pa_nil))))))) pa_nil)))), ?_⟩
    refine g_start (σ' := some _ :: some _ :: some _ :: some _ :: some _ :: some _ :: []) rfl ?_
    walk_at "gb"
    refine ⟨b, S, nm, rfl, B, fun H1 e1 => ⟨_, rfl, ?_⟩⟩
    have B1 := B.ed0 e1
    have hb1 := B1.hb
    walk_at "gb"
    refine ⟨b, S, rfl, hb1, ?_⟩
    walk_at "gb"
    refine ⟨Nat.le_of_ble_eq_true rfl, fun t ht => ?_⟩
    have ht0 : H t = none := e1.free ht
    have hl1 := e1.get List.not_mem_nil hl
    have nt1 : log ≠ t := ne_of_none hl1 ht
    walk_at "gb"
    refine k t _ ht0 ⟨fun a o n h => ?_, fun a h => ?_⟩ ?_ upd_same
    · have n1 : a ≠ log := fun z => n (by rw [z]; simp)
      have h1 := e1.get List.not_mem_nil h
      rw [upd_ne n1, upd_ne (ne_of_none h1 ht)]
      exact h1
    · exact Ed.put.2 _ ((Ed.new ht).2 _ (e1.2 _ h))
    · rw [upd_ne nt1.symm, upd_same]
end
section
variable {P : Program} {w : World} {K : PySem.W.Frag} {mg : Str → Option Value} {base : Heap}
theorem ok_Broker_waiting_entries {f : Addr} {fd : FuncData} (F : FnP K "waiting_entries" "Broker.waiting_entries" s_Broker_waiting_entries f fd) (T : Txt K mg) (N_Broker_open_entries : MtC P w K mg base 2 (He.ga K "Broker") "open_entries" ["self"] (sp_Broker_open_entries K))  : FnOk P w K mg base (L2.CX P w) 3 f fd ["self"] (sp_Broker_waiting_entries K) := by
  refine F.ok sc_Broker_waiting_entries (fun vs H Q E h => ?_) (fun cdv A outer s H vs Q E hr h => ?_)
  · obtain ⟨b, S, rfl, _⟩ := h
    rfl
  · have nd := sc_Broker_waiting_entries.nd
    have tk := takes_of (E := E) (X := (cxOf (L2.CX P w) P w K mg base ["self", "entry"] "Broker.waiting_entries" (defScope s_Broker_waiting_entries) f cdv A outer s H E)) rfl rfl rfl rfl
    have po : PassesOwn (model P w) (cxOf (L2.CX P w) P w K mg base ["self", "entry"] "Broker.waiting_entries" (defScope s_Broker_waiting_entries) f cdv A outer s H E).A (cxOf (L2.CX P w) P w K mg base ["self", "entry"] "Broker.waiting_entries" (defScope s_Broker_waiting_entries) f cdv A outer s H E).env (cxOf (L2.CX P w) P w K mg base ["self", "entry"] "Broker.waiting_entries" (defScope s_Broker_waiting_entries) f cdv A outer s H E).xe := passes_of (X := (cxOf (L2.CX P w) P w K mg base ["self", "entry"] "Broker.waiting_entries" (defScope s_Broker_waiting_entries) f cdv A outer s H E)) rfl
    obtain ⟨b, S, rfl, B, hw, k⟩ := h
    have c_Broker := T.c_Broker
    have a_Broker_names := T.a_Broker_names
    have a_Broker_desks := T.a_Broker_desks
    have a_Broker_entries := T.a_Broker_entries
    have a_Broker_entries_before := T.a_Broker_entries_before
    have a_Broker_made := T.a_Broker_made
    have a_Broker_depth := T.a_Broker_depth
    have hb := B.hb
    refine ⟨_, (pss_one (ps_ret (pe_lc (own := [("entry", 1)]) rfl nd (q_list K (q_meth0 N_Broker_open_entries tk (hr.mono (by decide)) (pv 0))) (blkOk_by (own := [("entry", 1)]) (N := ["self", "entry"]) (sc := defScope s_Broker_waiting_entries) (by decide +kernel)) (fun _ _ _ _ _ => (q_name 1 nd)) (fun _ _ _ _ _ => (pts_one (pt_cmpR op_dGt (pe_callB (cl_len K) (by rfl) T.n_len bt_len (pa_cons (pe_ix (ix_dyn K) (pv 1) pe_int (fun _ _ => rfl)) pa_nil)) pe_int (nomark _)))) (fun _ _ _ _ _ => (pv 1))))), ?_⟩
    refine g_start (σ' := some _ :: none :: []) rfl ?_
    walk_at "gb"
    refine ⟨b, S, rfl, B, fun p H1 hp e1 hp1 => ?_⟩
    have B1 := B.ed0 e1
    walk_at "gb"
    intro D hD
    refine lc_by (walk_list (xs := S.es.map fun e => V.ref e.tup)) (fun i H' => H' = upd H1 D (.lst [])) rfl (fun i H' hi e => by subst e; exact SqL.of (by rw [upd_ne (ne_of_none hp1 hD)]; exact hp1)) (fun i x H' H2 hi e hy => ?_) (fun H' e => ?_)
    · subst e
      obtain ⟨rfl, hx⟩ := hy
      rw [List.getElem?_map] at hx
      cases he : S.es[i]? with
      | none => rw [he] at hx; cases hx
      | some e =>
        rw [he] at hx
        cases hx
        have hem := List.mem_of_getElem? he
        have B2 := B1.ed0 (Ed.new (o := .lst []) hD)
        obtain ⟨h1, h2, _⟩ := B2.es e hem
        rw [hw e hem] at h2
        simp only [wipe_cons, wipe_nil, List.map_cons, List.map_nil, List.set_cons_succ, List.set_cons_zero]
        walk_at "gb"
        refine ⟨by first | rfl | walk_at "wipe", ?_⟩
        walk_at "gb"
        refine iteF' (by decide) ?_
        rfl
    · subst e
      exact k D _ (e1.tr (Ed.new hD) no0) (e1.free hD) upd_same
end
section
variable {P : Program} {w : World} {K : PySem.W.Frag} {mg : Str → Option Value} {base : Heap}
theorem ok_Broker_connect {f : Addr} {fd : FuncData} (F : FnP K "connect" "Broker.connect" s_Broker_connect f fd) (T : Txt K mg) (N_Broker_desk_of : MtC P w K mg base 3 (He.ga K "Broker") "desk_of" ["self", "name"] (sp_Broker_desk_of K))  : FnOk P w K mg base (L2.CX P w) 4 f fd ["self", "name", "source"] (sp_Broker_connect K) := by
  refine F.ok sc_Broker_connect (fun vs H Q E h => ?_) (fun cdv A outer s H vs Q E hr h => ?_)
  · obtain ⟨b, S, i, d, v, rfl, _⟩ := h
    rfl
  · have nd := sc_Broker_connect.nd
    have tk := takes_of (E := E) (X := (cxOf (L2.CX P w) P w K mg base ["self", "name", "source", "desk"] "Broker.connect" (defScope s_Broker_connect) f cdv A outer s H E)) rfl rfl rfl rfl
    have po : PassesOwn (model P w) (cxOf (L2.CX P w) P w K mg base ["self", "name", "source", "desk"] "Broker.connect" (defScope s_Broker_connect) f cdv A outer s H E).A (cxOf (L2.CX P w) P w K mg base ["self", "name", "source", "desk"] "Broker.connect" (defScope s_Broker_connect) f cdv A outer s H E).env (cxOf (L2.CX P w) P w K mg base ["self", "name", "source", "desk"] "Broker.connect" (defScope s_Broker_connect) f cdv A outer s H E).xe := passes_of (X := (cxOf (L2.CX P w) P w K mg base ["self", "name", "source", "desk"] "Broker.connect" (defScope s_Broker_connect) f cdv A outer s H E)) rfl
    obtain ⟨b, S, i, d, v, rfl, B, hd, k⟩ := h
    have c_Broker := T.c_Broker
    have a_Broker_names := T.a_Broker_names
    have a_Broker_desks := T.a_Broker_desks
    have a_Broker_entries := T.a_Broker_entries
    have a_Broker_entries_before := T.a_Broker_entries_before
    have a_Broker_made := T.a_Broker_made
    have a_Broker_depth := T.a_Broker_depth
    have c_Desk := T.c_Desk
    have a_Desk_is_late := T.a_Desk_is_late
    have a_Desk_source := T.a_Desk_source
    have a_Desk_is_handling := T.a_Desk_is_handling
    have hb := B.hb
    have hdm := List.mem_of_getElem? hd
    have hda := B.ds d hdm
    refine ⟨_, (pss_cons (q_set 3 nd (q_meth N_Broker_desk_of tk (hr.mono (by decide)) (pv 0) (pa_cons (pv 1) pa_nil))) (pss_one (q_sfld K (pv 3) (pv 2)))), ?_⟩
    refine g_start (σ' := some _ :: some _ :: some _ :: none :: []) rfl ?_
    walk_at "gb"
    refine ⟨b, none, S, d, rfl, B, hdm, ?_⟩
    walk_at "gb"
    exact k _ (Eo.put hda rfl) (B.setD (d' := { d with src := v }) hd rfl rfl)
end
section
variable {P : Program} {w : World} {K : PySem.W.Frag} {mg : Str → Option Value} {base : Heap}
theorem ok_Broker_call_source {f : Addr} {fd : FuncData} (F : FnP K "call_source" "Broker.call_source" s_Broker_call_source f fd) (T : Txt K mg) (V_source : CleS P w K mg base 5 (SV_source K)) (M_AnswerObject : MkC P w K mg base 1 "AnswerObject" (He.ga K "AnswerObject") ["self", "broker", "record"] (sp_AnswerObject___init__ K))  : FnOk P w K mg base (L2.CX P w) 6 f fd ["self", "source", "record"] (sp_Broker_call_source K) := by
  refine F.ok sc_Broker_call_source (fun vs H Q E h => ?_) (fun cdv A outer s H vs Q E hr h => ?_)
  · obtain ⟨b, S, n, r, g, G, rfl, _⟩ := h
    rfl
  · have nd := sc_Broker_call_source.nd
    have tk := takes_of (E := E) (X := (cxOf (L2.CX P w) P w K mg base ["self", "source", "record", "depth"] "Broker.call_source" (defScope s_Broker_call_source) f cdv A outer s H E)) rfl rfl rfl rfl
    have po : PassesOwn (model P w) (cxOf (L2.CX P w) P w K mg base ["self", "source", "record", "depth"] "Broker.call_source" (defScope s_Broker_call_source) f cdv A outer s H E).A (cxOf (L2.CX P w) P w K mg base ["self", "source", "record", "depth"] "Broker.call_source" (defScope s_Broker_call_source) f cdv A outer s H E).env (cxOf (L2.CX P w) P w K mg base ["self", "source", "record", "depth"] "Broker.call_source" (defScope s_Broker_call_source) f cdv A outer s H E).xe := passes_of (X := (cxOf (L2.CX P w) P w K mg base ["self", "source", "record", "depth"] "Broker.call_source" (defScope s_Broker_call_source) f cdv A outer s H E)) rfl
    obtain ⟨b, S, n, r, g, G, rfl, B, hrn, hg, k⟩ := h
    have c_Broker := T.c_Broker
    have a_Broker_names := T.a_Broker_names
    have a_Broker_desks := T.a_Broker_desks
    have a_Broker_entries := T.a_Broker_entries
    have a_Broker_entries_before := T.a_Broker_entries_before
    have a_Broker_made := T.a_Broker_made
    have a_Broker_depth := T.a_Broker_depth
    have c_Record := T.c_Record
    have a_Record_number := T.a_Record_number
    have a_Record_request := T.a_Record_request
    have a_Record_sent := T.a_Record_sent
    have a_Record_call := T.a_Record_call
    have a_Record_owner := T.a_Record_owner
    have a_Record_is_calling := T.a_Record_is_calling
    have c_AnswerObject := T.c_AnswerObject
    have a_AnswerObject_broker := T.a_AnswerObject_broker
    have a_AnswerObject_record := T.a_AnswerObject_record
    have hb := B.hb
    have hra := B.rs n r hrn
    refine ⟨_, (pss_cons (q_sfld K (pv 2) pe_bl) (pss_cons (q_set 3 nd (q_fld K (pv 0))) (pss_cons (q_sfld K (pv 0) (pe_op op_dAdd (pv 3) pe_int)) (pss_one (ps_finX rfl rfl rfl tk (fun W1 pn1 xe1 tk1 po1 => (pss_one (ps_expr (q_callV V_source.cv tk1 (hr.mono (by decide)) (pv 1) (pa_cons (q_fld K (pv 2)) (pa_cons (q_make M_AnswerObject tk1 (hr.mono (by decide)) (pa_cons (pv 0) (pa_cons (pv 2) pa_nil))) pa_nil)))))) (pss_cons (q_sfld K (pv 2) pe_bl) (pss_one (q_sfld K (pv 0) (pv 3)))) (fun a1 pn1 => (pss_cons (q_sfld K (pv 2) pe_bl) (pss_one (q_sfld K (pv 0) (pv 3)))))))))), ?_⟩
    refine g_start (σ' := some _ :: some _ :: some _ :: none :: []) rfl ?_
    walk_at "gb"
    generalize hX : upd H r.a _ = H1
    have B1 : Brk K H1 b (S.setR n { r with cg := true }) := by rw [← hX]; exact B.setR (r' := { r with cg := true }) hrn rfl rfl
    have x1 : Eo H H1 := by rw [← hX]; exact Eo.put hra rfl
    have hb1 := B1.hb
    walk_at "gb"
    generalize hY : upd H1 b _ = H2
    have B2 : Brk K H2 b { S.setR n { r with cg := true } with dp := S.dp + 1 } := by rw [← hY]; exact B1.setDp (S.dp + 1)
    have x2 : Eo H H2 := x1.tr (by rw [← hY]; exact Eo.put hb1 rfl)
    have hra2 := B2.rs n _ (set_at hrn)
    walk_at "gb"
    refine ⟨g, G, rfl, x2.get hg, ?_⟩
    walk_at "gb"
    intro x dx hx hdx hn
    refine ⟨x, dx, b, r.a, rfl, upd_same, rfl, ?_⟩
    rw [upd_upd]
    generalize hZ : upd (upd H2 dx _) x _ = H4
    obtain ⟨e4, ha4⟩ := Ed.new2 hZ hx hdx hn
    walk_at "gb"
    refine k x dx H4 _ _ (x2.free hx) (x2.tr (.ed0 e4)) ha4 (B2.ed0 e4) fun v H5 S5 r5 B5 h5 h6 h7 k5 => ?_
    have hb5 := B5.hb
    have hra5 := B5.rs n r5 h5
    rw [h6] at hra5
    walk_at "gb"
    generalize hU : upd H5 r.a _ = H6
    have B6 : Brk K H6 b (S5.setR n { r5 with cg := false }) := by rw [← hU, ← h6]; exact B5.setR (r' := { r5 with cg := false }) h5 rfl rfl
    have x6 : Eo H5 H6 := by rw [← hU]; exact Eo.put hra5 rfl
    have hb6 := B6.hb
    walk_at "gb"
    refine k5 _ (x6.tr (Eo.put hb6 rfl)) (B6.setDp S.dp)
end
section
variable {P : Program} {w : World} {K : PySem.W.Frag} {mg : Str → Option Value} {base : Heap}
theorem ok_Broker_answer_at_once {f : Addr} {fd : FuncData} (F : FnP K "answer_at_once" "Broker.answer_at_once" s_Broker_answer_at_once f fd) (T : Txt K mg) (V_call : CleS P w K mg base 5 (SV_call K)) (N_Broker_close : MtC P w K mg base 1 (He.ga K "Broker") "close" ["self", "record"] (sp_Broker_close K))  : FnOk P w K mg base (L2.CX P w) 6 f fd ["self", "desk", "record", "value"] (sp_Broker_answer_at_once K) := by
  refine F.ok sc_Broker_answer_at_once (fun vs H Q E h => ?_) (fun cdv A outer s H vs Q E hr h => ?_)
  · obtain ⟨b, S, n, i, r, d, v, g, G, rfl, _⟩ := h
    rfl
  · have nd := sc_Broker_answer_at_once.nd
    have tk := takes_of (E := E) (X := (cxOf (L2.CX P w) P w K mg base ["self", "desk", "record", "value", "depth"] "Broker.answer_at_once" (defScope s_Broker_answer_at_once) f cdv A outer s H E)) rfl rfl rfl rfl
    have po : PassesOwn (model P w) (cxOf (L2.CX P w) P w K mg base ["self", "desk", "record", "value", "depth"] "Broker.answer_at_once" (defScope s_Broker_answer_at_once) f cdv A outer s H E).A (cxOf (L2.CX P w) P w K mg base ["self", "desk", "record", "value", "depth"] "Broker.answer_at_once" (defScope s_Broker_answer_at_once) f cdv A outer s H E).env (cxOf (L2.CX P w) P w K mg base ["self", "desk", "record", "value", "depth"] "Broker.answer_at_once" (defScope s_Broker_answer_at_once) f cdv A outer s H E).xe := passes_of (X := (cxOf (L2.CX P w) P w K mg base ["self", "desk", "record", "value", "depth"] "Broker.answer_at_once" (defScope s_Broker_answer_at_once) f cdv A outer s H E)) rfl
    obtain ⟨b, S, n, i, r, d, v, g, G, rfl, B, hrn, hdi, hc, hg, k⟩ := h
    have c_Broker := T.c_Broker
    have a_Broker_names := T.a_Broker_names
    have a_Broker_desks := T.a_Broker_desks
    have a_Broker_entries := T.a_Broker_entries
    have a_Broker_entries_before := T.a_Broker_entries_before
    have a_Broker_made := T.a_Broker_made
    have a_Broker_depth := T.a_Broker_depth
    have c_Record := T.c_Record
    have a_Record_number := T.a_Record_number
    have a_Record_request := T.a_Record_request
    have a_Record_sent := T.a_Record_sent
    have a_Record_call := T.a_Record_call
    have a_Record_owner := T.a_Record_owner
    have a_Record_is_calling := T.a_Record_is_calling
    have c_Desk := T.c_Desk
    have a_Desk_is_late := T.a_Desk_is_late
    have a_Desk_source := T.a_Desk_source
    have a_Desk_is_handling := T.a_Desk_is_handling
    have hb := B.hb
    have hra := B.rs n r hrn
    refine ⟨_, (pss_cons (ps_expr (q_meth N_Broker_close tk (hr.mono (by decide)) (pv 0) (pa_cons (pv 2) pa_nil))) (pss_cons (q_sfld K (pv 1) pe_bl) (pss_cons (q_set 4 nd (q_fld K (pv 0))) (pss_cons (q_sfld K (pv 0) (pe_op op_dAdd (pv 4) pe_int)) (pss_one (ps_finX rfl rfl rfl tk (fun W1 pn1 xe1 tk1 po1 => (pss_one (ps_expr (q_callFK (m := "call") K V_call.cv tk1 (hr.mono (by decide)) (pv 2) (pa_cons (q_fld K (pv 2)) (pa_cons (pv 3) pa_nil)))))) (pss_cons (q_sfld K (pv 1) pe_bl) (pss_one (q_sfld K (pv 0) (pv 4)))) (fun a1 pn1 => (pss_cons (q_sfld K (pv 1) pe_bl) (pss_one (q_sfld K (pv 0) (pv 4))))))))))), ?_⟩
    refine g_start (σ' := some _ :: some _ :: some _ :: some _ :: none :: []) rfl ?_
    walk_at "gb"
    refine ⟨b, S, n, r, rfl, B, hra, fun en H1 hen x1 kp1 B1 => ?_⟩
    have hb1 := B1.hb
    have hda1 := B1.ds d (List.mem_of_getElem? hdi)
    walk_at "gb"
    generalize hX : upd H1 d.a _ = H2
    have B2 : Brk K H2 b ((S.closed r.req en).setD i { d with hand := true }) := by rw [← hX]; exact B1.setD (d' := { d with hand := true }) hdi rfl rfl
    have x2 : Eo H H2 := x1.tr (by rw [← hX]; exact Eo.put hda1 rfl)
    have hb2 := B2.hb
    walk_at "gb"
    generalize hY : upd H2 b _ = H3
    have B3 : Brk K H3 b { (S.closed r.req en).setD i { d with hand := true } with dp := S.dp + 1 } := by rw [← hY]; exact B2.setDp (S.dp + 1)
    have x3 : Eo H H3 := x2.tr (by rw [← hY]; exact Eo.put hb2 rfl)
    have hra3 := B3.rs n r hrn
    walk_at "gb"
    refine ⟨r.a, He.ga K "Record", r.dx, _, g, G, rfl, hra3, c_Record, a_Record_call, by rw [← hc]; rfl, x3.get hg, ?_⟩
    walk_at "gb"
    refine k en H3 _ _ hen x3 B3 fun v H5 S5 d5 B5 h5 h6 h7 k5 => ?_
    have hb5 := B5.hb
    have hda5 := B5.ds d5 (List.mem_of_getElem? h5)
    rw [h6] at hda5
    walk_at "gb"
    generalize hU : upd H5 d.a _ = H6
    have B6 : Brk K H6 b (S5.setD i { d5 with hand := false }) := by rw [← hU, ← h6]; exact B5.setD (d' := { d5 with hand := false }) h5 rfl rfl
    have x6 : Eo H5 H6 := by rw [← hU]; exact Eo.put hda5 rfl
    have hb6 := B6.hb
    walk_at "gb"
    exact k5 _ (x6.tr (Eo.put hb6 rfl)) (B6.setDp S.dp)
end
section
variable {P : Program} {w : World} {K : PySem.W.Frag} {mg : Str → Option Value} {base : Heap}
theorem ok_Broker_answer_idle {f : Addr} {fd : FuncData} (F : FnP K "answer_idle" "Broker.answer_idle" s_Broker_answer_idle f fd) (T : Txt K mg) (V_call : CleS P w K mg base 5 (SV_call K)) (N_Broker_close : MtC P w K mg base 1 (He.ga K "Broker") "close" ["self", "record"] (sp_Broker_close K))  : FnOk P w K mg base (L2.CX P w) 6 f fd ["self", "record", "value"] (sp_Broker_answer_idle K) := by
  refine F.ok sc_Broker_answer_idle (fun vs H Q E h => ?_) (fun cdv A outer s H vs Q E hr h => ?_)
  · obtain ⟨b, S, n, r, v, g, G, rfl, _⟩ := h
    rfl
  · have nd := sc_Broker_answer_idle.nd
    have tk := takes_of (E := E) (X := (cxOf (L2.CX P w) P w K mg base ["self", "record", "value", "depth"] "Broker.answer_idle" (defScope s_Broker_answer_idle) f cdv A outer s H E)) rfl rfl rfl rfl
    have po : PassesOwn (model P w) (cxOf (L2.CX P w) P w K mg base ["self", "record", "value", "depth"] "Broker.answer_idle" (defScope s_Broker_answer_idle) f cdv A outer s H E).A (cxOf (L2.CX P w) P w K mg base ["self", "record", "value", "depth"] "Broker.answer_idle" (defScope s_Broker_answer_idle) f cdv A outer s H E).env (cxOf (L2.CX P w) P w K mg base ["self", "record", "value", "depth"] "Broker.answer_idle" (defScope s_Broker_answer_idle) f cdv A outer s H E).xe := passes_of (X := (cxOf (L2.CX P w) P w K mg base ["self", "record", "value", "depth"] "Broker.answer_idle" (defScope s_Broker_answer_idle) f cdv A outer s H E)) rfl
    obtain ⟨b, S, n, r, v, g, G, rfl, B, hrn, hc, hg, k⟩ := h
    have c_Broker := T.c_Broker
    have a_Broker_names := T.a_Broker_names
    have a_Broker_desks := T.a_Broker_desks
    have a_Broker_entries := T.a_Broker_entries
    have a_Broker_entries_before := T.a_Broker_entries_before
    have a_Broker_made := T.a_Broker_made
    have a_Broker_depth := T.a_Broker_depth
    have c_Record := T.c_Record
    have a_Record_number := T.a_Record_number
    have a_Record_request := T.a_Record_request
    have a_Record_sent := T.a_Record_sent
    have a_Record_call := T.a_Record_call
    have a_Record_owner := T.a_Record_owner
    have a_Record_is_calling := T.a_Record_is_calling
    have hb := B.hb
    have hra := B.rs n r hrn
    refine ⟨_, (pss_cons (q_sfld K (pv 0) (q_fld K (pv 0))) (pss_cons (ps_expr (q_meth N_Broker_close tk (hr.mono (by decide)) (pv 0) (pa_cons (pv 1) pa_nil))) (pss_cons (q_set 3 nd (q_fld K (pv 0))) (pss_cons (q_sfld K (pv 0) (pe_op op_dAdd (pv 3) pe_int)) (pss_one (ps_finX rfl rfl rfl tk (fun W1 pn1 xe1 tk1 po1 => (pss_one (ps_expr (q_callFK (m := "call") K V_call.cv tk1 (hr.mono (by decide)) (pv 1) (pa_cons (q_fld K (pv 1)) (pa_cons (pv 2) pa_nil)))))) (pss_one (q_sfld K (pv 0) (pv 3))) (fun a1 pn1 => (pss_one (q_sfld K (pv 0) (pv 3)))))))))), ?_⟩
    refine g_start (σ' := some _ :: some _ :: some _ :: none :: []) rfl ?_
    walk_at "gb"
    generalize hX : upd H b _ = H1
    have B1 : Brk K H1 b { S with eb := .ref S.en } := by rw [← hX]; exact B.setEb (.ref S.en)
    have x1 : Eo H H1 := by rw [← hX]; exact Eo.put hb rfl
    have hb1 := B1.hb
    have hra1 := B1.rs n r hrn
    walk_at "gb"
    refine ⟨b, _, n, r, rfl, B1, hra1, fun en H2 hen x2 kp2 B2 => ?_⟩
    have hb2 := B2.hb
    walk_at "gb"
    generalize hY : upd H2 b _ = H3
    have B3 : Brk K H3 b { S.closed r.req en with eb := .ref S.en, dp := S.dp + 1 } := by rw [← hY]; exact B2.setDp (S.dp + 1)
    have x3 : Eo H H3 := (x1.tr x2).tr (by rw [← hY]; exact Eo.put hb2 rfl)
    have hra3 := B3.rs n r hrn
    walk_at "gb"
    refine ⟨r.a, He.ga K "Record", r.dx, _, g, G, rfl, hra3, c_Record, a_Record_call, by rw [← hc]; rfl, x3.get hg, ?_⟩
    walk_at "gb"
    refine k en H3 _ _ (x1.free hen) x3 B3 fun v H5 S5 B5 k5 => ?_
    have hb5 := B5.hb
    walk_at "gb"
    exact k5 _ (Eo.put hb5 rfl) (B5.setDp S.dp)
end
section
variable {P : Program} {w : World} {K : PySem.W.Frag} {mg : Str → Option Value} {base : Heap}
theorem ok_Broker_receive {f : Addr} {fd : FuncData} (F : FnP K "receive" "Broker.receive" s_Broker_receive f fd) (T : Txt K mg) (N_Broker_answer_at_once : MtC P w K mg base 6 (He.ga K "Broker") "answer_at_once" ["self", "desk", "record", "value"] (sp_Broker_answer_at_once K)) (N_Broker_answer_idle : MtC P w K mg base 6 (He.ga K "Broker") "answer_idle" ["self", "record", "value"] (sp_Broker_answer_idle K)) (N_Broker_is_current : MtC P w K mg base 1 (He.ga K "Broker") "is_current" ["self", "record"] (sp_Broker_is_current K))  : FnOk P w K mg base (L2.CX P w) 7 f fd ["self", "record", "value"] (sp_Broker_receive K) := by
  refine F.ok sc_Broker_receive (fun vs H Q E h => ?_) (fun cdv A outer s H vs Q E hr h => ?_)
  · obtain ⟨b, S, n, r, v, rfl, _⟩ := h
    rfl
  · have nd := sc_Broker_receive.nd
    have tk := takes_of (E := E) (X := (cxOf (L2.CX P w) P w K mg base ["self", "record", "value", "present", "waits", "desk", "kept", "name", "entry"] "Broker.receive" (defScope s_Broker_receive) f cdv A outer s H E)) rfl rfl rfl rfl
    have po : PassesOwn (model P w) (cxOf (L2.CX P w) P w K mg base ["self", "record", "value", "present", "waits", "desk", "kept", "name", "entry"] "Broker.receive" (defScope s_Broker_receive) f cdv A outer s H E).A (cxOf (L2.CX P w) P w K mg base ["self", "record", "value", "present", "waits", "desk", "kept", "name", "entry"] "Broker.receive" (defScope s_Broker_receive) f cdv A outer s H E).env (cxOf (L2.CX P w) P w K mg base ["self", "record", "value", "present", "waits", "desk", "kept", "name", "entry"] "Broker.receive" (defScope s_Broker_receive) f cdv A outer s H E).xe := passes_of (X := (cxOf (L2.CX P w) P w K mg base ["self", "record", "value", "present", "waits", "desk", "kept", "name", "entry"] "Broker.receive" (defScope s_Broker_receive) f cdv A outer s H E)) rfl
    obtain ⟨b, S, n, r, v, rfl, B, hrn, k1, k2⟩ := h
    have c_Broker := T.c_Broker
    have a_Broker_names := T.a_Broker_names
    have a_Broker_desks := T.a_Broker_desks
    have a_Broker_entries := T.a_Broker_entries
    have a_Broker_entries_before := T.a_Broker_entries_before
    have a_Broker_made := T.a_Broker_made
    have a_Broker_depth := T.a_Broker_depth
    have c_Record := T.c_Record
    have a_Record_number := T.a_Record_number
    have a_Record_request := T.a_Record_request
    have a_Record_sent := T.a_Record_sent
    have a_Record_call := T.a_Record_call
    have a_Record_owner := T.a_Record_owner
    have a_Record_is_calling := T.a_Record_is_calling
    have c_Desk := T.c_Desk
    have a_Desk_is_late := T.a_Desk_is_late
    have a_Desk_source := T.a_Desk_source
    have a_Desk_is_handling := T.a_Desk_is_handling
    have hb := B.hb
    have hra := B.rs n r hrn
    refine ⟨_, (pss_cons (ps_if (pt_not (q_truth K (q_meth N_Broker_is_current tk (hr.mono (by decide)) (pv 0) (pa_cons (pv 1) pa_nil)))) (pss_one (ps_ret pe_bl)) pss_nil) (pss_cons (ps_asg (pe_dget (units1 hr.units) (q_fld K (pv 0)) (q_fld K (pv 1)) (fun _ _ => rfl)) (q_gtup K 2 (pgs_cons (q_name 3 nd) (pgs_cons (q_name 4 nd) pgs_nil)))) (pss_cons (ps_if (pt_cmpR op_dGt (pe_callB (cl_len K) (by rfl) T.n_len bt_len (pa_cons (pv 4) pa_nil)) pe_int (nomark _)) (pss_one (ps_ret pe_bl)) pss_nil) (pss_cons (q_set 5 nd (pe_dget (units1 hr.units) (q_fld K (pv 0)) (q_fld K (pv 1)) (fun _ _ => rfl))) (pss_cons (ps_if (PW.pt (pw_and (q_truth K (q_fld K (pv 1))) (pw_and (pt_not (q_truth K (q_fld K (pv 5)))) (pw_and1 (pt_not (q_truth K (q_fld K (pv 5)))))))) (pss_one (ps_expr (q_meth N_Broker_answer_at_once tk (hr.mono (by decide)) (pv 0) (pa_cons (pv 5) (pa_cons (pv 1) (pa_cons (pv 2) pa_nil)))))) (pss_one (ps_if (pt_cmpR (op_dEq K hr.units) (q_fld K (pv 0)) pe_int (nomark _)) (pss_one (ps_expr (q_meth N_Broker_answer_idle tk (hr.mono (by decide)) (pv 0) (pa_cons (pv 1) (pa_cons (pv 2) pa_nil))))) (pss_cons (ps_lock (ps_setDc (i := 6) (own := [("name", 7), ("entry", 8)]) (tt := tYes) rfl nd rfl rfl (sw_trueD rfl rfl rfl (by decide +kernel)) (pi_items (q_fld K (pv 0))) (blkOk_by (own := [("name", 7), ("entry", 8)]) (N := ["self", "record", "value", "present", "waits", "desk", "kept", "name", "entry"]) (sc := defScope s_Broker_receive) (by decide +kernel)) (fun _ _ _ _ _ => (q_gtup K 2 (pgs_cons (q_name 7 nd) (pgs_cons (q_name 8 nd) pgs_nil)))) (fun _ _ _ _ _ => pts_nil) (fun _ _ _ _ _ => (pv 7)) (fun _ _ _ _ _ => (pv 8)))) (pss_cons (ps_dput (units1 hr.units) (pv 6) (q_fld K (pv 1)) (pe_tup (pa_cons (pv 1) (pa_cons (pe_tup (pa_cons (pv 2) pa_nil)) pa_nil))) rfl) (pss_one (q_sfld K (pv 0) (pv 6)))))))) (pss_one (ps_ret pe_bl))))))), ?_⟩
    refine g_start (σ' := some _ :: some _ :: some _ :: none :: none :: none :: none :: none :: none :: []) rfl ?_
    walk_at "gb"
    refine ⟨b, none, S, n, r, rfl, B, hrn, ?_⟩
    walk_at "gb"
    cases hcur : S.cur n r with
    | false =>
      walk_at "gb"
      exact k1 hcur
    | true =>
      obtain ⟨e, he, hen⟩ : ∃ e, S.fe r.req = some e ∧ e.num = n := by
        unfold BSt.cur at hcur
        cases q : S.fe r.req with
        | none => rw [q] at hcur; cases hcur
        | some e => rw [q] at hcur; exact ⟨e, rfl, by simpa using hcur⟩
      obtain ⟨hem, hnm⟩ := fe_mem he
      obtain ⟨h1, h2, r2, h3, h4, h5⟩ := B.es e hem
      obtain ⟨d, hd, hdn⟩ := List.mem_map.mp (B.en e hem)
      obtain ⟨i, hi⟩ := List.mem_iff_getElem?.mp hd
      have hdr : d.name = r.req := hdn.trans hnm
      obtain ⟨k3, k4⟩ := k2 e i d he hen hi hdr
      have hev : valV (ekv S.es) (.inr r.req) = some (.ref e.tup) := by
        rw [val_ekv]
        show (S.fe r.req).map _ = _
        rw [he]; rfl
      have hdv := B.desk hd
      rw [hdr] at hdv
      have hda := B.ds d hd
      have hdd := B.hd
      walk_at "gb"
      refine g_dgr B.rd hev ?_
      walk_at "gb"
      by_cases hw : e.ws = []
      · refine iteF' (by rw [hw]; decide) ?_
        walk_at "gb"
        have k5 := k4 hw
        have etr : S.ds[i]? = some d := hi
        refine' g_allP (W := (r.cg && (!d.late && !d.hand)) = false) (R := ?Rx) ?main ?rest
        case main =>
          intro els
          cases e1 : r.cg with
          | false =>
            walk_at "gb"
            exact els (by rw [e1]; rfl)
          | true =>
            walk_at "gb"
            cases e2 : d.late with
            | true =>
              walk_at "gb"
              exact els (by rw [e1, e2]; rfl)
            | false =>
              walk_at "gb"
              cases e3 : d.hand with
              | true =>
                walk_at "gb"
                exact els (by rw [e1, e2, e3]; rfl)
              | false =>
                walk_at "gb"
                rw [e1, e2, e3, if_pos (by decide)] at k5
                obtain ⟨g, G, hc, hg, k6⟩ := k5
                refine ⟨b, S, n, i, r, d, v, g, G, rfl, B, hrn, hi, hc, hg, fun en H1 E' Q' q1 q2 q3 q4 => k6 en H1 E' Q' q1 q2 q3 fun v H2 S2 d2 p1 p2 p3 p4 p5 => q4 v H2 S2 d2 p1 p2 p3 p4 fun H3 x3 B3 => ?_⟩
                walk_at "gb"
                exact p5 H3 x3 B3
        case rest =>
          intro hc
          rw [hc, if_neg (by decide)] at k5
          by_cases hz : S.dp = 0
          · rw [if_pos hz] at k5
            refine iteT' (decide_eq_true hz) ?_
            walk_at "gb"
            obtain ⟨g, G, hc, hg, k6⟩ := k5
            refine ⟨b, S, n, r, v, g, G, rfl, B, hrn, hc, hg, fun en H1 E' Q' q1 q2 q3 q4 => k6 en H1 E' Q' q1 q2 q3 fun v H2 S2 p1 p2 => q4 v H2 S2 p1 fun H3 x3 B3 => ?_⟩
            walk_at "gb"
            exact p2 H3 x3 B3
          · rw [if_neg hz] at k5
            refine iteF' (decide_eq_false hz) ?_
            walk_at "gb"
            refine g_lockS (u := .dK (ekv S.es)) B.he True.intro fun od => ?_
            have B1 := B.lock od
            have hb1 := B1.hb
            have hne := B.ne_enb
            walk_at "gb"
            intro D hD
            have hDn : D ≠ S.en := fun z => by rw [z, upd_same] at hD; cases hD
            have hD0 : H D = none := by rw [upd_ne hDn] at hD; exact hD
            refine dc_items (fun i H' => Pcl (upd H S.en (.frz od (.dK (ekv S.es)))) D (ekv (S.es.take i)) H') (.start hD) (fun i H' hi p => p.keep _ _ hDn.symm upd_same) (fun i k v T H' hkv p hT => ?_) (fun H' p => ?_)
            · obtain ⟨x, hx, hk⟩ := ekv_at hkv
              cases hk
              have hxm := List.mem_of_getElem? hx
              have hTD : T ≠ D := fun z => by rw [z, p.at_] at hT; cases hT
              have ek : kV (Sum.inr x.name) = V.str x.name := rfl
              rw [ek]
              simp only [wipe_cons, wipe_nil, List.map_cons, List.map_nil, List.set_cons_succ, List.set_cons_zero]
              refine g_gtup (SqT.of upd_same) rfl ?_
              walk_at "gb"
              refine ⟨by first | rfl | walk_at "wipe", ?_⟩
              walk_at "gb"
              have hlen : (ekv (S.es.take i)).length < sizeLine := by
                have := B.es_len
                rw [List.length_map, List.length_take, sizeLine_eq]
                omega
              refine ⟨_, Sum.inr x.name, rfl, by rw [upd_ne hTD.symm]; exact p.at_, hlen, ?_⟩
              rw [List.take_succ, hx]
              show Pcl _ _ (ekv (_ ++ [x])) _
              rw [ekv_put (fun y hy => ?_)]
              · exact (p.new hT).put
              · obtain ⟨j, hm, hj⟩ := List.mem_take_iff_getElem.mp hy
                intro zz
                have hnd := B.ee
                have e1 : (S.es.map (·.name))[j]? = some x.name := by rw [List.getElem?_map, List.getElem?_eq_getElem (by omega), hj, ← zz]; rfl
                have e2 : (S.es.map (·.name))[i]? = some x.name := by rw [List.getElem?_map, hx]; rfl
                have := (List.getElem?_inj (by rw [List.length_map]; omega) hnd).mp (e1.trans e2.symm)
                omega
            · have lz : (ekv S.es).length = S.es.length := List.length_map ..
              rw [lz, List.take_length] at p
              walk_at "gb"
              refine ⟨p.keep _ _ hDn.symm upd_same, ?_⟩
              have e2 : Ed [] H (upd H' S.en (.dK (ekv S.es))) := by
                refine ⟨fun a o _ h => ?_, fun a h => ?_⟩
                · by_cases ha : a = S.en
                  · subst ha; rw [upd_same, ← h]; exact B.he.symm
                  · rw [upd_ne ha]; exact p.keep a o (ne_of_none h hD0) (by rw [upd_ne ha]; exact h)
                · by_cases ha : a = S.en
                  · subst ha; rw [upd_same]; simp
                  · rw [upd_ne ha]; exact p.live a (by rw [upd_ne ha]; exact h)
              have hD2 : (upd H' S.en (.dK (ekv S.es))) D = some (.dK (ekv S.es)) := by rw [upd_ne hDn]; exact p.at_
              generalize upd H' S.en (.dK (ekv S.es)) = H2 at e2 hD2
              have B2 := B.ed0 e2
              have hb2 := B2.hb
              have hra2 := B2.rs n r hrn
              have nD : D ≠ b := fun z => by rw [z, hb] at hD0; cases hD0
              have dD : S.dd ≠ D := fun z => by rw [← z, B.hd] at hD0; cases hD0
              walk_at "gb"
              refine ⟨Nat.le_of_ble_eq_true rfl, fun wt hwt => ?_⟩
              walk_at "gb"
              refine ⟨Nat.le_of_ble_eq_true rfl, fun tp htp => ?_⟩
              have n1 : wt ≠ tp := ne_of_none (show (upd H2 wt (.tup [v])) wt = some (.tup [v]) from upd_same) htp
              have e4 : Ed [] H2 (upd (upd H2 wt (.tup [v])) tp (.tup [.ref r.a, .ref wt])) := (Ed.new hwt).tr (Ed.new htp) no0
              have htp4 : (upd (upd H2 wt (.tup [v])) tp (.tup [.ref r.a, .ref wt])) tp = some (.tup [.ref r.a, .ref wt]) := upd_same
              have hwt4 : (upd (upd H2 wt (.tup [v])) tp (.tup [.ref r.a, .ref wt])) wt = some (.tup [v]) := by rw [upd_ne n1, upd_same]
              generalize upd (upd H2 wt (.tup [v])) tp (.tup [.ref r.a, .ref wt]) = H4 at e4 htp4 hwt4
              have hD4 := e4.get List.not_mem_nil hD2
              have hra4 := e4.get List.not_mem_nil hra2
              have hel := B.es_len
              walk_at "gb"
              rw [ekv_upd (n := n) (ra := r.a) (wt := wt) (v := v) ⟨e, hem, hnm⟩]
              have ntp : tp ≠ D := fun z => by rw [z, hD4] at htp4; cases htp4
              have nwt : wt ≠ D := fun z => by rw [z, hD4] at hwt4; cases hwt4
              generalize hU : upd H4 D _ = H5
              have e5 : Ed [] H H5 := by
                subst hU
                refine ⟨fun a o _ h => ?_, fun a h => Ed.put.2 _ (e4.2 _ (e2.2 _ h))⟩
                rw [upd_ne (ne_of_none h hD0)]
                exact e4.get List.not_mem_nil (e2.get List.not_mem_nil h)
              have B5 := B.ed0 e5
              have hb5 := B5.hb
              have hD5 : H5 D = some (.dK (ekv (S.wait r.req n tp r.a wt D v).es)) := by subst hU; exact upd_same
              have htp5 : H5 tp = some (.tup [.ref r.a, .ref wt]) := by subst hU; rw [upd_ne ntp]; exact htp4
              have hwt5 : H5 wt = some (.tup [v]) := by subst hU; rw [upd_ne nwt]; exact hwt4
              walk_at "gb"
              refine k5 _ tp wt D hD0 ((Eo.ed0 e5).tr (Eo.put hb5 rfl)) ?_
              refine B5.setB (S' := S.wait r.req n tp r.a wt D v) (l' := none) rfl rfl rfl rfl hD5 nD (fun x hx => ?_) ?_ (fun x hx => ?_) dD
              · obtain ⟨y, hy, rfl⟩ := List.mem_map.mp hx
                unfold Ent.upd
                by_cases z : y.name = r.req
                · rw [if_pos z]
                  exact ⟨htp5, hwt5, r, hrn, rfl, z.symm⟩
                · rw [if_neg z]
                  exact B5.es y hy
              · show ((S.es.map (Ent.upd r.req n tp r.a wt v)).map (·.name)).Nodup
                rw [List.map_map]
                have : ((fun x : Ent => x.name) ∘ Ent.upd r.req n tp r.a wt v) = fun x => x.name := by funext x; exact Ent.upd_name
                rw [this]; exact B.ee
              · obtain ⟨y, hy, rfl⟩ := List.mem_map.mp hx
                rw [Ent.upd_name]; exact B.en y hy
      · have hl : 0 < e.ws.length := List.length_pos_iff.mpr hw
        refine iteT' (decide_eq_true (by omega)) ?_
        walk_at "gb"
        exact k3 hw
end
section
variable {P : Program} {w : World} {K : PySem.W.Frag} {mg : Str → Option Value} {base : Heap}
theorem ok_AnswerObject___call__ {f : Addr} {fd : FuncData} (F : FnP K "__call__" "AnswerObject.__call__" s_AnswerObject___call__ f fd) (T : Txt K mg) (N_Broker_receive : MtC P w K mg base 7 (He.ga K "Broker") "receive" ["self", "record", "value"] (sp_Broker_receive K))  : FnOk P w K mg base (L2.CX P w) 8 f fd ["self", "value"] (sp_AnswerObject___call__ K) := by
  refine F.ok sc_AnswerObject___call__ (fun vs H Q E h => ?_) (fun cdv A outer s H vs Q E hr h => ?_)
  · obtain ⟨a, dx, b, ra, v, rfl, _⟩ := h
    rfl
  · have nd := sc_AnswerObject___call__.nd
    have tk := takes_of (E := E) (X := (cxOf (L2.CX P w) P w K mg base ["self", "value"] "AnswerObject.__call__" (defScope s_AnswerObject___call__) f cdv A outer s H E)) rfl rfl rfl rfl
    have po : PassesOwn (model P w) (cxOf (L2.CX P w) P w K mg base ["self", "value"] "AnswerObject.__call__" (defScope s_AnswerObject___call__) f cdv A outer s H E).A (cxOf (L2.CX P w) P w K mg base ["self", "value"] "AnswerObject.__call__" (defScope s_AnswerObject___call__) f cdv A outer s H E).env (cxOf (L2.CX P w) P w K mg base ["self", "value"] "AnswerObject.__call__" (defScope s_AnswerObject___call__) f cdv A outer s H E).xe := passes_of (X := (cxOf (L2.CX P w) P w K mg base ["self", "value"] "AnswerObject.__call__" (defScope s_AnswerObject___call__) f cdv A outer s H E)) rfl
    obtain ⟨a, dx, b, ra, v, rfl, ha, ⟨S, hb⟩, k⟩ := h
    have c_AnswerObject := T.c_AnswerObject
    have a_AnswerObject_broker := T.a_AnswerObject_broker
    have a_AnswerObject_record := T.a_AnswerObject_record
    have c_Broker := T.c_Broker
    have a_Broker_names := T.a_Broker_names
    have a_Broker_desks := T.a_Broker_desks
    have a_Broker_entries := T.a_Broker_entries
    have a_Broker_entries_before := T.a_Broker_entries_before
    have a_Broker_made := T.a_Broker_made
    have a_Broker_depth := T.a_Broker_depth
    refine ⟨_, (pss_one (ps_ret (q_meth N_Broker_receive tk (hr.mono (by decide)) (q_fld K (pv 0)) (pa_cons (q_fld K (pv 0)) (pa_cons (pv 1) pa_nil))))), ?_⟩
    refine g_start (σ' := some _ :: some _ :: []) rfl ?_
    walk_at "gb"
    exact k
end
section
variable {P : Program} {w : World} {K : PySem.W.Frag} {mg : Str → Option Value} {base : Heap}
theorem ok_Broker_make_ask {f : Addr} {fd : FuncData} (F : FnP K "make_ask" "Broker.make_ask" s_Broker_make_ask f fd) (T : Txt K mg) (M_Handle : MkC P w K mg base 1 "Handle" (He.ga K "Handle") ["self", "broker", "record"] (sp_Handle___init__ K)) (M_Record : MkC P w K mg base 1 "Record" (He.ga K "Record") ["self", "number", "request", "sent", "call", "owner"] (sp_Record___init__ K)) (N_Broker_call_source : MtC P w K mg base 6 (He.ga K "Broker") "call_source" ["self", "source", "record"] (sp_Broker_call_source K)) (N_Broker_close : MtC P w K mg base 1 (He.ga K "Broker") "close" ["self", "record"] (sp_Broker_close K)) (N_Broker_desk_of : MtC P w K mg base 3 (He.ga K "Broker") "desk_of" ["self", "name"] (sp_Broker_desk_of K)) (N_Broker_open_entry : MtC P w K mg base 3 (He.ga K "Broker") "open_entry" ["self", "name"] (sp_Broker_open_entry K))  : FnOk P w K mg base (L2.CX P w) 7 f fd ["self", "owner", "name", "sent", "call", "replace"] (sp_Broker_make_ask K) := by
  refine F.ok sc_Broker_make_ask (fun vs H Q E h => ?_) (fun cdv A outer s H vs Q E hr h => ?_)
  · obtain ⟨b, S, i, d, sent, call, rp, rfl, _⟩ := h
    rfl
  · have nd := sc_Broker_make_ask.nd
    have tk := takes_of (E := E) (X := (cxOf (L2.CX P w) P w K mg base ["self", "owner", "name", "sent", "call", "replace", "desk", "record"] "Broker.make_ask" (defScope s_Broker_make_ask) f cdv A outer s H E)) rfl rfl rfl rfl
    have po : PassesOwn (model P w) (cxOf (L2.CX P w) P w K mg base ["self", "owner", "name", "sent", "call", "replace", "desk", "record"] "Broker.make_ask" (defScope s_Broker_make_ask) f cdv A outer s H E).A (cxOf (L2.CX P w) P w K mg base ["self", "owner", "name", "sent", "call", "replace", "desk", "record"] "Broker.make_ask" (defScope s_Broker_make_ask) f cdv A outer s H E).env (cxOf (L2.CX P w) P w K mg base ["self", "owner", "name", "sent", "call", "replace", "desk", "record"] "Broker.make_ask" (defScope s_Broker_make_ask) f cdv A outer s H E).xe := passes_of (X := (cxOf (L2.CX P w) P w K mg base ["self", "owner", "name", "sent", "call", "replace", "desk", "record"] "Broker.make_ask" (defScope s_Broker_make_ask) f cdv A outer s H E)) rfl
    obtain ⟨b, S, i, d, sent, call, rp, rfl, B, hi, hsrc, k1, k2⟩ := h
    have c_Broker := T.c_Broker
    have a_Broker_names := T.a_Broker_names
    have a_Broker_desks := T.a_Broker_desks
    have a_Broker_entries := T.a_Broker_entries
    have a_Broker_entries_before := T.a_Broker_entries_before
    have a_Broker_made := T.a_Broker_made
    have a_Broker_depth := T.a_Broker_depth
    have c_Record := T.c_Record
    have a_Record_number := T.a_Record_number
    have a_Record_request := T.a_Record_request
    have a_Record_sent := T.a_Record_sent
    have a_Record_call := T.a_Record_call
    have a_Record_owner := T.a_Record_owner
    have a_Record_is_calling := T.a_Record_is_calling
    have c_Desk := T.c_Desk
    have a_Desk_is_late := T.a_Desk_is_late
    have a_Desk_source := T.a_Desk_source
    have a_Desk_is_handling := T.a_Desk_is_handling
    have c_Handle := T.c_Handle
    have a_Handle_broker := T.a_Handle_broker
    have a_Handle_record := T.a_Handle_record
    have a_Handle_request := T.a_Handle_request
    have a_Handle_sent := T.a_Handle_sent
    have hb := B.hb
    have hdm := List.mem_of_getElem? hi
    refine ⟨_, (pss_cons (q_set 6 nd (q_meth N_Broker_desk_of tk (hr.mono (by decide)) (pv 0) (pa_cons (pv 2) pa_nil))) (pss_cons (ps_if (PW.pt (pw_and (pt_cmpR op_dIsNot (q_meth N_Broker_open_entry tk (hr.mono (by decide)) (pv 0) (pa_cons (pv 2) pa_nil)) pe_non (nomark _)) (pw_and1 (pt_not (q_truth K (pv 5)))))) (pss_one (ps_ret pe_non)) pss_nil) (pss_cons (q_set 7 nd (q_make M_Record tk (hr.mono (by decide)) (pa_cons (q_fld K (pv 0)) (pa_cons (pv 2) (pa_cons (pv 3) (pa_cons (pv 4) (pa_cons (pv 1) pa_nil))))))) (pss_cons (q_afld K (pv 0) pe_int in_add) (pss_cons (ps_expr (q_meth N_Broker_close tk (hr.mono (by decide)) (pv 0) (pa_cons (pv 7) pa_nil))) (pss_cons (q_sfld K (pv 0) (pe_dispS (q_fld K (pv 0)) (pv 2) (pe_tup (pa_cons (pv 7) (pa_cons (pe_tup pa_nil) pa_nil))))) (pss_cons (ps_if (pt_cmpR op_dIsNot (q_fld K (pv 6)) pe_non (nomark _)) (pss_one (ps_expr (q_meth N_Broker_call_source tk (hr.mono (by decide)) (pv 0) (pa_cons (q_fld K (pv 6)) (pa_cons (pv 7) pa_nil))))) pss_nil) (pss_one (ps_ret (q_make M_Handle tk (hr.mono (by decide)) (pa_cons (pv 0) (pa_cons (pv 7) pa_nil)))))))))))), ?_⟩
    refine g_start (σ' := some _ :: some _ :: some _ :: some _ :: some _ :: some _ :: none :: none :: []) rfl ?_
    walk_at "gb"
    refine ⟨b, none, S, d, rfl, B, hdm, ?_⟩
    walk_at "gb"
    refine ⟨b, S, d.name, rfl, B, fun H1 e1 => ?_⟩
    have B1 := B.ed0 e1
    have hb1 := B1.hb
    refine' g_allP (W := (S.has d.name && !rp) = false) (R := ?Rx) ?main ?rest
    case main =>
      intro els
      cases e2 : S.fe d.name with
      | none =>
        walk_at "gb"
        exact els (by unfold BSt.has; rw [e2]; rfl)
      | some x =>
        cases rp with
        | false =>
          walk_at "gb"
          exact k1 (by unfold BSt.has; rw [e2]; rfl) H1 e1
        | true =>
          walk_at "gb"
          exact els (by unfold BSt.has; rw [e2]; rfl)
    case rest =>
      intro hc
      have k3 := k2 hc
      clear k1 k2
      walk_at "gb"
      intro x dx hx hdx hn
      refine ⟨x, dx, S.rs.length, d.name, sent, call, rfl, upd_same, rfl, ?_⟩
      rw [upd_upd]
      generalize hr0 : (⟨x, dx, d.name, sent, call, false⟩ : Rec) = r
      have ra : r.a = x := by rw [← hr0]
      have rq : r.req = d.name := by rw [← hr0]
      have rs : r.sent = sent := by rw [← hr0]
      have rc : r.call = call := by rw [← hr0]
      have rg : r.cg = false := by rw [← hr0]
      generalize hZ : upd (upd H1 dx _) x _ = H2
      obtain ⟨e2, hx2⟩ := Ed.new2 hZ hx hdx hn
      have B2 := B1.ed0 e2
      have hb2 := B2.hb
      walk_at "gb"
      generalize hY : upd H2 b _ = H3
      have B3 : Brk K H3 b { S with rs := S.rs ++ [r] } := by
        have h := B2.newR (r := r) (by rw [ra]; exact hx2) (fun s hs z => by
          obtain ⟨j, hj⟩ := List.mem_iff_getElem?.mp hs
          have := B1.rs j s hj
          rw [z, ra, hx] at this
          cases this)
        have em : (((S.rs ++ [r]).length : Nat) : Int) = (S.rs.length : Int) + 1 := by simp
        unfold BSt.o at h
        rw [em] at h
        rw [← hY]
        exact h
      have x3 : Eo H H3 := ((Eo.ed0 e1).tr (Eo.ed0 e2)).tr (by rw [← hY]; exact Eo.put hb2 rfl)
      have hb3 := B3.hb
      have hr3 := B3.rs S.rs.length r get_app
      walk_at "gb"
      refine ⟨b, _, S.rs.length, r, by rw [ra], B3, hr3, fun en H4 hen x4 kp4 B4 => ?_⟩
      have hb4 := B4.hb
      walk_at "gb"
      intro p hp
      walk_at "gb"
      have nep : en ≠ p := ne_of_none (show H4 en = some _ from B4.he) hp
      have hno : ∀ e ∈ (BSt.closed { S with rs := S.rs ++ [r] } r.req en).es, e.name ≠ r.req := fun e he => by
        have := (List.mem_filter.mp he).2
        simpa using this
      refine ⟨en, ekv _, rfl, nep, upd_same, by rw [upd_ne nep]; exact B4.he, by rw [List.length_map]; exact B4.es_len, fun q hq hqn => ?_⟩
      rw [upd_upd] at hqn ⊢
      have hq4 : H4 q = none := by rw [upd_ne hq] at hqn; exact hqn
      walk_at "gb"
      refine ⟨Nat.zero_le _, fun wt hwt => ?_⟩
      walk_at "gb"
      refine ⟨Nat.le_of_ble_eq_true rfl, fun tp htp => ?_⟩
      walk_at "gb"
      have npq : p ≠ q := hq.symm
      have npw : p ≠ wt := fun z => by rw [← z, upd_ne npq, upd_same] at hwt; cases hwt
      have nqw : q ≠ wt := fun z => by rw [← z, upd_same] at hwt; cases hwt
      have nwt : wt ≠ tp := fun z => by rw [← z, upd_same] at htp; cases htp
      have npt : p ≠ tp := fun z => by rw [← z, upd_ne npw, upd_ne npq, upd_same] at htp; cases htp
      have nqt : q ≠ tp := fun z => by rw [← z, upd_ne nqw, upd_same] at htp; cases htp
      have hw4 : H4 wt = none := by rw [upd_ne nqw.symm, upd_ne npw.symm] at hwt; exact hwt
      have ht4 : H4 tp = none := by rw [upd_ne nwt.symm, upd_ne nqt.symm, upd_ne npt.symm] at htp; exact htp
      have em : mergeK (ekv (BSt.closed { S with rs := S.rs ++ [r] } r.req en).es) [(Sum.inr d.name, V.ref tp)] = ekv ((BSt.closed { S with rs := S.rs ++ [r] } r.req en).es ++ [⟨r.req, S.rs.length, tp, r.a, wt, []⟩]) := by
        show putK _ (Sum.inr d.name) (V.ref tp) = _
        rw [← rq]
        exact ekv_put (e := ⟨r.req, S.rs.length, tp, r.a, wt, []⟩) hno
      refine ⟨Sum.inr d.name, rfl, by rw [upd_ne nqt, upd_ne nqw, upd_same], by rw [upd_ne npt, upd_ne npw, upd_ne npq, upd_same], ?_⟩
      rw [em]
      generalize hU : upd (upd _ q _) p _ = H6
      have e6 : Ed [] H4 H6 := by
        have key : ∀ a o, H4 a = some o → H6 a = some o := fun a o h => by
          rw [← hU, upd_ne (ne_of_none h hp), upd_ne (ne_of_none h hq4), upd_ne (ne_of_none h ht4), upd_ne (ne_of_none h hw4), upd_ne (ne_of_none h hq4), upd_ne (ne_of_none h hp)]
          exact h
        exact ⟨fun a o _ h => key a o h, fun a h => by
          cases hh : H4 a with
          | none => exact absurd hh h
          | some o => rw [key a o hh]; simp⟩
      have hp6 : H6 p = some (.dK (ekv ((BSt.closed { S with rs := S.rs ++ [r] } r.req en).es ++ [⟨r.req, S.rs.length, tp, r.a, wt, []⟩]))) := by rw [← hU]; exact upd_same
      have htp6 : H6 tp = some (.tup [.ref r.a, .ref wt]) := by rw [← hU, upd_ne npt.symm, upd_ne nqt.symm, upd_same, ra]
      have hwt6 : H6 wt = some (.tup []) := by rw [← hU, upd_ne npw.symm, upd_ne nqw.symm, upd_ne nwt, upd_same]
      clear hU htp hwt hqn em
      have B6 := B4.ed0 e6
      have hb6 := B6.hb
      have npb : p ≠ b := fun z => by rw [z, hb4] at hp; cases hp
      have ndp : S.dd ≠ p := ne_of_none (show H4 S.dd = some _ from B4.hd) hp
      walk_at "gb"
      have hin : r.req ∈ (BSt.closed { S with rs := S.rs ++ [r] } r.req en).ns := by rw [rq]; exact List.mem_map.mpr ⟨d, hdm, rfl⟩
      generalize hV : upd H6 b _ = H7
      have B7 : Brk K H7 b (S.asked r tp wt p) := by
        rw [← hV]
        exact B6.addE (r := r) (n := S.rs.length) hp6 npb ndp get_app hin htp6 hwt6 hno
      have x7 : Eo H H7 := ((x3.tr x4).tr (Eo.ed0 e6)).tr (by rw [← hV]; exact Eo.put hb6 rfl)
      have hb7 := B7.hb
      have hda7 : H7 d.a = some (d.o K) := B7.ds d hdm
      have hr7 : H7 r.a = some (r.o K S.rs.length) := B7.rs S.rs.length r get_app
      rw [← ra]
      have hpH : H p = none := (x3.tr x4).free hp
      have hra0 : H r.a = none := by rw [ra]; exact e1.free hx
      obtain ⟨k4, k5⟩ := k3 r tp wt p H7 rq rs rc rg hra0 hpH x7 B7
      walk_at "gb"
      rcases hsrc with hs | ⟨g, G, hs, hg⟩
      · rw [hs]
        walk_at "gb"
        intro y dy hy hdy hny
        have hr8 : (upd (upd H7 dy (.own y)) y (.ins (He.ga K "Handle") dy [])) r.a = some (r.o K S.rs.length) := by
          rw [upd_ne (ne_of_none hr7 hy), upd_ne (ne_of_none hr7 hdy)]; exact hr7
        refine ⟨y, dy, b, S.rs.length, r, rfl, upd_same, hr8, ne_of_none hr7 hy, rfl, ?_⟩
        rw [upd_upd]
        generalize hZ2 : upd (upd H7 dy _) y _ = H8
        obtain ⟨e8, hy8⟩ := Ed.new2 hZ2 hy hdy hny
        rw [rq, rs] at hy8
        exact k4 hs y dy H8 e8 hy8
      · rw [hs]
        walk_at "gb"
        refine ⟨b, _, S.rs.length, r, g, G, by rw [hs], B7, get_app, x7.get hg, fun an dxa H8 E' Q' q1 q2 q3 B8 q5 => ?_⟩
        rw [rs]
        refine k5 g hs an dxa H8 E' Q' (x7.free q1) q2 q3 B8 fun v H9 S9 r9 p1 p2 p3 p4 p5 p6 => q5 v H9 S9 r9 p1 p2 p3 p4 fun H10 x10 B10 => ?_
        have hr10 := B10.rs S.rs.length _ (set_at p2)
        have hr10 : H10 r.a = some (Rec.o K S.rs.length { r9 with cg := false }) := by rw [← p3]; exact hr10
        walk_at "gb"
        intro y dy hy hdy hny
        have hr11 : (upd (upd H10 dy (.own y)) y (.ins (He.ga K "Handle") dy [])) r.a = some (Rec.o K S.rs.length { r9 with cg := false }) := by
          rw [upd_ne (ne_of_none hr10 hy), upd_ne (ne_of_none hr10 hdy)]; exact hr10
        refine ⟨y, dy, b, S.rs.length, { r9 with cg := false }, by rw [← p3], upd_same, by rw [p3]; exact hr11, by show r9.a ≠ y; rw [p3]; exact ne_of_none hr10 hy, rfl, ?_⟩
        rw [upd_upd]
        generalize hZ2 : upd (upd H10 dy _) y _ = H12
        obtain ⟨e12, hy12⟩ := Ed.new2 hZ2 hy hdy hny
        rw [p3, p4, p5, rq, rs] at hy12
        exact p6 y dy H12 (x10.tr (.ed0 e12)) (B10.ed0 e12) hy12
end
section
variable {P : Program} {w : World} {K : PySem.W.Frag} {mg : Str → Option Value} {base : Heap}
theorem ok_Broker_ask {f : Addr} {fd : FuncData} (F : FnD K "ask" "Broker.ask" s_Broker_ask [] [("replace", V.bl false)] f fd) (T : Txt K mg) (N_Broker_make_ask : MtC P w K mg base 7 (He.ga K "Broker") "make_ask" ["self", "owner", "name", "sent", "call", "replace"] (sp_Broker_make_ask K))  : FnOk P w K mg base (L2.CX P w) 8 f fd ["self", "name", "sent", "call", "replace"] (sp_Broker_ask K) := by
  refine F.ok sc_Broker_ask (fun vs H Q E h => ?_) (fun cdv A outer s H vs Q E hr h => ?_)
  · obtain ⟨b, S, nm, sent, call, rp, rfl, _⟩ := h
    rfl
  · have nd := sc_Broker_ask.nd
    have tk := takes_of (E := E) (X := (cxOf (L2.CX P w) P w K mg base ["self", "name", "sent", "call", "replace"] "Broker.ask" (defScope s_Broker_ask) f cdv A outer s H E)) rfl rfl rfl rfl
    have po : PassesOwn (model P w) (cxOf (L2.CX P w) P w K mg base ["self", "name", "sent", "call", "replace"] "Broker.ask" (defScope s_Broker_ask) f cdv A outer s H E).A (cxOf (L2.CX P w) P w K mg base ["self", "name", "sent", "call", "replace"] "Broker.ask" (defScope s_Broker_ask) f cdv A outer s H E).env (cxOf (L2.CX P w) P w K mg base ["self", "name", "sent", "call", "replace"] "Broker.ask" (defScope s_Broker_ask) f cdv A outer s H E).xe := passes_of (X := (cxOf (L2.CX P w) P w K mg base ["self", "name", "sent", "call", "replace"] "Broker.ask" (defScope s_Broker_ask) f cdv A outer s H E)) rfl
    obtain ⟨b, S, nm, sent, call, rp, rfl, hb, k⟩ := h
    have c_Broker := T.c_Broker
    have a_Broker_names := T.a_Broker_names
    have a_Broker_desks := T.a_Broker_desks
    have a_Broker_entries := T.a_Broker_entries
    have a_Broker_entries_before := T.a_Broker_entries_before
    have a_Broker_made := T.a_Broker_made
    have a_Broker_depth := T.a_Broker_depth
    refine ⟨_, (pss_one (ps_ret (q_meth N_Broker_make_ask tk (hr.mono (by decide)) (pv 0) (pa_cons pe_non (pa_cons (pv 1) (pa_cons (pv 2) (pa_cons (pv 3) (pa_cons (pv 4) pa_nil)))))))), ?_⟩
    refine g_start (σ' := some _ :: some _ :: some _ :: some _ :: some _ :: []) rfl ?_
    walk_at "gb"
    exact k
end
section
variable {P : Program} {w : World} {K : PySem.W.Frag} {mg : Str → Option Value} {base : Heap}
theorem ok_Broker_waiting {f : Addr} {fd : FuncData} (F : FnP K "waiting" "Broker.waiting" s_Broker_waiting f fd) (T : Txt K mg) (N_Broker_waiting_entries : MtC P w K mg base 3 (He.ga K "Broker") "waiting_entries" ["self"] (sp_Broker_waiting_entries K)) : GFn P w K mg base 4 f fd ["self"] (sp_Broker_waiting K) := by
  refine FunD.okGen F sc_Broker_waiting (fun vs H Q E h => ?_) (fun cdv A outer s H vs Q E pn hr h => ?_)
  · obtain ⟨b, S, rfl, _⟩ := h
    rfl
  · have nd := sc_Broker_waiting.nd
    have po : PassesOwn (model P w) (gcxOf P w K mg base ["self", "record", "values"] "Broker.waiting" (defScope s_Broker_waiting) f cdv A outer s H E pn).A (gcxOf P w K mg base ["self", "record", "values"] "Broker.waiting" (defScope s_Broker_waiting) f cdv A outer s H E pn).env (gcxOf P w K mg base ["self", "record", "values"] "Broker.waiting" (defScope s_Broker_waiting) f cdv A outer s H E pn).xe := passes_of (X := (gcxOf P w K mg base ["self", "record", "values"] "Broker.waiting" (defScope s_Broker_waiting) f cdv A outer s H E pn)) rfl
    obtain ⟨b, S, rfl, B, hw, k⟩ := h
    have c_Broker := T.c_Broker
    have a_Broker_names := T.a_Broker_names
    have a_Broker_desks := T.a_Broker_desks
    have a_Broker_entries := T.a_Broker_entries
    have a_Broker_entries_before := T.a_Broker_entries_before
    have a_Broker_made := T.a_Broker_made
    have a_Broker_depth := T.a_Broker_depth
    have c_Record := T.c_Record
    have a_Record_number := T.a_Record_number
    have a_Record_request := T.a_Record_request
    have a_Record_sent := T.a_Record_sent
    have a_Record_call := T.a_Record_call
    have a_Record_owner := T.a_Record_owner
    have a_Record_is_calling := T.a_Record_is_calling
    have hb := B.hb
    refine ⟨_, (gss_cons (gs_for po rfl (q_list K (q_meth0 N_Broker_waiting_entries takes0 (hr.mono (by decide)) (pv 0))) (q_gtup K 2 (pgs_cons (q_name 1 nd) (pgs_cons (q_name 2 nd) pgs_nil))) (gss_cons (gs_yield (q_fld K (pv 1))) gss_nil)) gss_nil), ?_⟩
    refine gg_start (σ' := some _ :: none :: none :: []) rfl ?_
    refine g_gthen ?_
    refine g_gfor ?_
    walk_at "gb"
    refine ⟨b, S, rfl, B, hw, fun p H1 e1 hp hp1 => ?_⟩
    walk_at "gb"
    refine gl_it (walk_list (xs := [])) (fun i ys σ' H' => ys = [] ∧ H' = H1) ⟨rfl, rfl⟩ (fun i ys σ' H' hi hh => by obtain ⟨_, rfl⟩ := hh; exact SqL.of hp1) (fun i x ys σ' H' H2 hi hh hy => absurd hi (Nat.not_lt_zero _)) (fun ys σ' H' hh => ?_)
    obtain ⟨rfl, rfl⟩ := hh
    refine g_gn0 ?_
    exact k _ e1
end
section
variable {P : Program} {w : World} {K : PySem.W.Frag} {mg : Str → Option Value} {base : Heap}
theorem ok_Broker___init__ {f : Addr} {fd : FuncData} (F : FnP K "__init__" "Broker.__init__" s_Broker___init__ f fd) (T : Txt K mg) (M_Desk : MkC P w K mg base 1 "Desk" (He.ga K "Desk") ["self", "is_late"] (sp_Desk___init__ K)) (X_UnknownRequest : XC P w K mg base 1 "UnknownRequest" "name" (He.ga K "UnknownRequest")) : FnSt P w K mg base 3 f ["put_off"] (spM (sp_Broker___init__ K)) := by
  refine FunD.okStarM F sc_Broker___init__ (fun kV doc pm an cdv ct u0 us w1 => by cases us <;> rfl) (fun cdv A outer s H vs Q E hr h => ?_)
  have nd := sc_Broker___init__.nd
  have tk := takes_of (E := E) (X := (cxOf (L2.CX P w) P w K mg base ["self", "put_off", "requests", "name"] "Broker.__init__" (defScope s_Broker___init__) f cdv A outer s H E)) rfl rfl rfl rfl
  have po : PassesOwn (model P w) (cxOf (L2.CX P w) P w K mg base ["self", "put_off", "requests", "name"] "Broker.__init__" (defScope s_Broker___init__) f cdv A outer s H E).A (cxOf (L2.CX P w) P w K mg base ["self", "put_off", "requests", "name"] "Broker.__init__" (defScope s_Broker___init__) f cdv A outer s H E).env (cxOf (L2.CX P w) P w K mg base ["self", "put_off", "requests", "name"] "Broker.__init__" (defScope s_Broker___init__) f cdv A outer s H E).xe := passes_of (X := (cxOf (L2.CX P w) P w K mg base ["self", "put_off", "requests", "name"] "Broker.__init__" (defScope s_Broker___init__) f cdv A outer s H E)) rfl
  obtain ⟨a, dx, l, p, ns, lt, rfl, ha, hl, hp, hsub, hnd, hz, k⟩ := h
  have c_Broker := T.c_Broker
  have a_Broker_names := T.a_Broker_names
  have a_Broker_desks := T.a_Broker_desks
  have a_Broker_entries := T.a_Broker_entries
  have a_Broker_entries_before := T.a_Broker_entries_before
  have a_Broker_made := T.a_Broker_made
  have a_Broker_depth := T.a_Broker_depth
  have c_Desk := T.c_Desk
  have a_Desk_is_late := T.a_Desk_is_late
  have a_Desk_source := T.a_Desk_source
  have a_Desk_is_handling := T.a_Desk_is_handling
  refine ⟨_, (pss_cons (ps_for po rfl (q_list K (pv 1)) (q_name 3 nd) (pss_one (ps_if (pt_cmpR (op_dNotIn K) (pv 3) (pv 2) (by rfl)) (pss_one (q_raise X_UnknownRequest tk (hr.mono (by decide)) (pa_cons (pv 3) pa_nil))) pss_nil))) (pss_cons (q_sfld K (pv 0) (pe_callTy (cl_list K) (by rfl) T.n_list bt_list (pa_cons (pv 2) pa_nil))) (pss_cons (q_sfld K (pv 0) (pe_dc (own := [("name", 3)]) (tt := tYes) rfl nd (q_tupI K (pv 2)) (blkOk_by (own := [("name", 3)]) (N := ["self", "put_off", "requests", "name"]) (sc := defScope s_Broker___init__) (by decide +kernel)) (fun _ _ _ _ _ => (q_name 3 nd)) (fun _ _ _ _ _ => pts_nil) (fun _ _ _ _ _ => (pv 3)) (fun _ _ _ _ _ => (q_make M_Desk takes0 (hr.mono (by decide)) (pa_cons (pe_cmpR (op_dIn K) (pv 3) (pv 1) (by rfl)) pa_nil))))) (pss_cons (q_sfld K (pv 0) pe_dnewK) (pss_cons (q_sfld K (pv 0) pe_dnewK) (pss_cons (q_sfld K (pv 0) pe_int) (pss_one (q_sfld K (pv 0) pe_int)))))))), ?_⟩
  refine g_start (σ' := some _ :: some _ :: some _ :: none :: []) rfl ?_
  walk_at "gb"
  refine lp_it (walk_list (xs := lt.map V.str)) (fun i σ' H' => H' = H ∧ ∃ v, σ' = [some (.ref a), some (.ref l), some (.ref p), v]) ⟨rfl, _, rfl⟩ (fun i σ' H' hi hh => by obtain ⟨rfl, _⟩ := hh; exact SqL.of hl) (fun i x σ' H' H2 hi hh hy => ?_) (fun σ' H' hh => ?_)
  · obtain ⟨rfl, v, rfl⟩ := hh
    obtain ⟨rfl, hx⟩ := hy
    rw [List.getElem?_map] at hx
    cases hn : lt[i]? with
    | none => rw [hn] at hx; cases hx
    | some n =>
      rw [hn] at hx
      cases hx
      have hin : n ∈ ns := hsub n (List.mem_of_getElem? hn)
      walk_at "gb"
      refine iteF' (by simp only [Bool.not_eq_false', decide_eq_true_eq]; exact hin) ?_
      walk_at "gb"
      exact ⟨rfl, _, rfl⟩
  · obtain ⟨rfl, v, rfl⟩ := hh
    walk_at "gb"
    intro nl hnl
    have nla : nl ≠ a := fun z => by rw [z, ha] at hnl; cases hnl
    have ha1 : (upd H' nl (.lst (ns.map V.str))) a = some (.ins (He.ga K "Broker") dx []) := by rw [upd_ne nla.symm]; exact ha
    have e1 : Ed [] H' (upd H' nl (.lst (ns.map V.str))) := Ed.new hnl
    have hnl1 : (upd H' nl (.lst (ns.map V.str))) nl = some (.lst (ns.map V.str)) := upd_same
    generalize upd H' nl (.lst (ns.map V.str)) = H1 at ha1 e1 hnl1
    walk_at "gb"
    generalize hX : upd H1 a _ = H2
    have ha2 : H2 a = some (.ins (He.ga K "Broker") dx [("names", .ref nl)]) := by rw [← hX]; exact upd_same
    have e2 : Ed [a] H' H2 := by rw [← hX]; exact (e1.weak no0).tr Ed.put fun x hx => .inl hx
    have hnl2 : H2 nl = some (.lst (ns.map V.str)) := by rw [← hX, upd_ne nla]; exact hnl1
    have hl2 : H2 l = some (.lst (lt.map V.str)) := e2.get (fun z => by rw [List.mem_singleton.mp z, ha] at hl; cases hl) hl
    have hp2 : H2 p = some (.tup (ns.map V.str)) := e2.get (fun z => by rw [List.mem_singleton.mp z, ha] at hp; cases hp) hp
    clear hX
    have aD := fun (D : Addr) (hD : H2 D = none) => ne_of_none hl2 hD
    walk_at "gb"
    intro D hD
    refine dc_tup (xs := ns.map V.str) (fun i H3 => ∃ ds, Dks K lt ns H2 D i ds H3) ⟨[], rfl, (fun d hd => by cases hd), List.nodup_nil, .start hD⟩ (fun i H3 hi hh => by
      obtain ⟨ds, P⟩ := hh
      exact SqT.of (P.pcl.keep _ _ (ne_of_none hp2 hD) hp2)) (fun i x H3 hx hh => ?_) (fun H3 hh => ?_)
    · obtain ⟨ds, P⟩ := hh
      rw [List.getElem?_map] at hx
      cases hn : ns[i]? with
      | none => rw [hn] at hx; cases hx
      | some n =>
        rw [hn] at hx
        cases hx
        have hl3 := P.pcl.keep _ _ (ne_of_none hl2 hD) hl2
        simp only [wipe_cons, wipe_nil, List.map_cons, List.map_nil, List.set_cons_succ, List.set_cons_zero]
        walk_at "gb"
        refine ⟨by first | rfl | walk_at "wipe", ?_⟩
        walk_at "gb"
        intro y dy hy hdy hne
        refine ⟨y, dy, decide (n ∈ lt), rfl, upd_same, fun nm => ⟨rfl, ?_⟩⟩
        rw [upd_upd]
        have hlen : (dkv ds).length < sizeLine := by
          have h1 := congrArg List.length P.nm
          rw [List.length_map, List.length_take] at h1
          rw [List.length_map, h1, sizeLine_eq]
          omega
        have hyD : D ≠ y := ne_of_none P.pcl.at_ hy
        have hdD : D ≠ dy := ne_of_none P.pcl.at_ hdy
        refine ⟨dkv ds, Sum.inr n, rfl, by rw [upd_ne hyD, upd_ne hdD]; exact P.pcl.at_, hlen, _, P.add hn hnd rfl hy hdy hne⟩
    · obtain ⟨ds, P⟩ := hh
      rw [List.length_map] at P
      have hnm : ds.map (·.name) = ns := by rw [P.nm, List.take_length]
      have ha3 := P.pcl.keep _ _ (ne_of_none ha2 hD) ha2
      walk_at "gb"
      generalize hY : upd H3 a _ = H4
      have ha4 : H4 a = some (.ins (He.ga K "Broker") dx [("names", .ref nl), ("desks", .ref D)]) := by rw [← hY]; exact upd_same
      have e4 : Ed [a] H3 H4 := by rw [← hY]; exact Ed.put
      clear hY
      refine g_dnew fun en hen => ?_
      have e5 : Ed [] H4 (upd H4 en (.dK [])) := Ed.new hen
      have hen5 : (upd H4 en (.dK [])) en = some (.dK []) := upd_same
      generalize upd H4 en (.dK []) = H5 at e5 hen5
      have ha5 := e5.get List.not_mem_nil ha4
      walk_at "gb"
      generalize hY : upd H5 a _ = H6
      have ha6 : H6 a = some (.ins (He.ga K "Broker") dx [("names", .ref nl), ("desks", .ref D), ("entries", .ref en)]) := by rw [← hY]; exact upd_same
      have e6 : Ed [a] H5 H6 := by rw [← hY]; exact Ed.put
      clear hY
      refine g_dnew fun eb heb => ?_
      have e7 : Ed [] H6 (upd H6 eb (.dK [])) := Ed.new heb
      generalize upd H6 eb (.dK []) = H7 at e7
      have ha7 := e7.get List.not_mem_nil ha6
      walk_at "gb"
      simp only [upd_upd]
      generalize hY : upd H7 a _ = H8
      have ha8 : H8 a = some (BSt.o K ⟨dx, nl, D, en, .ref eb, ds, [], [], 0⟩) := by rw [← hY]; exact upd_same
      have e8 : Ed [a] H7 H8 := by rw [← hY]; exact Ed.put
      clear hY
      have kp : ∀ b o, b ≠ a → H3 b = some o → H8 b = some o := fun b o n h => e8.get (fun z => n (List.mem_singleton.mp z)) (e7.get List.not_mem_nil (e6.get (fun z => n (List.mem_singleton.mp z)) (e5.get List.not_mem_nil (e4.get (fun z => n (List.mem_singleton.mp z)) h))))
      have lv : ∀ b, H3 b ≠ none → H8 b ≠ none := fun b h => e8.2 _ (e7.2 _ (e6.2 _ (e5.2 _ (e4.2 _ h))))
      have nea : en ≠ a := fun z => by rw [z, ha5] at hen5; cases hen5
      have hDa : D ≠ a := fun z => by rw [z, ha2] at hD; cases hD
      have hen8 : H8 en = some (.dK []) := e8.get (fun z => nea (List.mem_singleton.mp z)) (e7.get List.not_mem_nil (e6.get (fun z => nea (List.mem_singleton.mp z)) hen5))
      have hD8 : H8 D = some (.dK (dkv ds)) := kp D _ hDa P.pcl.at_
      have nDe : D ≠ en := fun z => by
        have h4 := e4.get (fun z => hDa (List.mem_singleton.mp z)) P.pcl.at_
        rw [z, hen] at h4
        cases h4
      have hnl3 := P.pcl.keep _ _ (ne_of_none hnl2 hD) hnl2
      refine k H8 ⟨dx, nl, D, en, .ref eb, ds, [], [], 0⟩ ⟨fun b o n h => ?_, fun b h => lv b (P.pcl.live b (e2.2 b h))⟩ ?_ hnm (fun d hd => (P.each d hd).1) rfl rfl rfl hnl
      · have n1 : b ≠ a := fun z => n (List.mem_singleton.mpr z)
        have h2 := e2.get n h
        exact kp b o n1 (P.pcl.keep b o (ne_of_none h2 hD) h2)
      · refine ⟨ha8, ?_, hD8, hen8, fun d hd => ?_, fun i r h => ?_, fun e he => ?_, ?_, P.nd, List.nodup_nil, List.nodup_nil, fun e he => ?_, ?_, nDe⟩
        · show H8 nl = some (.lst ((ds.map (fun d : Dsk => d.name)).map V.str))
          rw [hnm]; exact kp nl _ nla hnl3
        · exact kp d.a _ (fun z => by have := (P.each d hd).2.1; rw [z, ha2] at this; cases this) (P.each d hd).2.2
        · cases h
        · cases he
        · show (ds.map (fun d : Dsk => d.name)).Nodup
          rw [hnm]; exact hnd
        · cases he
        · show (ds.map (fun d : Dsk => d.name)).length ≤ 1000
          rw [hnm]; exact hz
end
section
variable {P : Program} {w : World} {K : PySem.W.Frag} {mg : Str → Option Value} {base : Heap}
theorem ok_law_draw {f : Addr} {fd : FuncData} (F : FnP K "_law_draw" "_law_draw" s_law_draw f fd) (T : Txt K mg)   : FnOk P w K mg base (L2.CX P w) 1 f fd ["_law_pool_here", "_law_many"] (sp_law_draw K) := by
  refine F.ok sc_law_draw (fun vs H Q E h => ?_) (fun cdv A outer s H vs Q E hr h => ?_)
  · obtain ⟨a, g, s, gs, ss, sd, ct, m, rfl, _⟩ := h
    rfl
  · have nd := sc_law_draw.nd
    have tk := takes_of (E := E) (X := (cxOf (L2.CX P w) P w K mg base ["_law_pool_here", "_law_many", "_law_greats", "_law_smalls", "_law_seed", "_law_count", "_law_digit", "_law_cell"] "_law_draw" (defScope s_law_draw) f cdv A outer s H E)) rfl rfl rfl rfl
    have po : PassesOwn (model P w) (cxOf (L2.CX P w) P w K mg base ["_law_pool_here", "_law_many", "_law_greats", "_law_smalls", "_law_seed", "_law_count", "_law_digit", "_law_cell"] "_law_draw" (defScope s_law_draw) f cdv A outer s H E).A (cxOf (L2.CX P w) P w K mg base ["_law_pool_here", "_law_many", "_law_greats", "_law_smalls", "_law_seed", "_law_count", "_law_digit", "_law_cell"] "_law_draw" (defScope s_law_draw) f cdv A outer s H E).env (cxOf (L2.CX P w) P w K mg base ["_law_pool_here", "_law_many", "_law_greats", "_law_smalls", "_law_seed", "_law_count", "_law_digit", "_law_cell"] "_law_draw" (defScope s_law_draw) f cdv A outer s H E).xe := passes_of (X := (cxOf (L2.CX P w) P w K mg base ["_law_pool_here", "_law_many", "_law_greats", "_law_smalls", "_law_seed", "_law_count", "_law_digit", "_law_cell"] "_law_draw" (defScope s_law_draw) f cdv A outer s H E)) rfl
    obtain ⟨a, g, s, gs, ss, sd, ct, m, rfl, P0, z1, z2, z3, z4, z5, kk⟩ := h
    have pa := P0.ha
    refine ⟨_, (pss_cons (ps_asg (pv 0) (q_gtup K 4 (pgs_cons (q_name 2 nd) (pgs_cons (q_name 3 nd) (pgs_cons (q_name 4 nd) (pgs_cons (q_name 5 nd) pgs_nil)))))) (pss_cons (ps_asg (pe_op op_dAdd (pv 5) pe_int) (pg_sub (pv 0) pe_int set_list)) (pss_cut (ps_if (PW.pt (pw_and (q_truth K (pv 2)) (pw_and1 (pt_cmpR op_dLe (pe_ix (ix_dyn K) (pv 2) pe_int (fun _ _ => rfl)) pe_int (nomark _))))) (pss_one (ps_expr (q_bm K PySem.F.plainAttrs_list PySem.F.slot_list_pop PySem.F.type_list_pop m_pop (pv 2) (pa_cons pe_int pa_nil)))) pss_nil) (pss_cons (ps_if (q_truth K (pv 2)) (pss_cons (q_set 6 nd (pe_op op_dMod (pe_callTy cl_int (by rfl) T.n_int bt_int (pa_cons (pe_ix (ix_dyn K) (pv 2) pe_int (fun _ _ => rfl)) pa_nil)) (pv 1))) (pss_cons (ps_asg (pe_op op_dDiv (pe_callTy cl_int (by rfl) T.n_int bt_int (pa_cons (pe_ix (ix_dyn K) (pv 2) pe_int (fun _ _ => rfl)) pa_nil)) (pv 1)) (pg_sub (pv 2) pe_int set_list)) (pss_one (ps_ret (pv 6))))) pss_nil) (pss_cons (q_set 4 nd (pe_op op_dMod (pe_callTy cl_int (by rfl) T.n_int bt_int (pa_cons (pe_op op_dAdd (pe_op op_dAdd (pe_op op_dMul (pv 4) pe_int) (pe_op op_dMul pe_int (pv 5))) pe_int) pa_nil)) pe_int)) (pss_cut (ps_if (q_truth K (pv 3)) (pss_cons (q_set 7 nd (pe_ix (ix_dyn K) (pv 3) (pe_op op_dMod (pe_callTy cl_int (by rfl) T.n_int bt_int (pa_cons (pv 5) pa_nil)) (pe_callB (cl_len K) (by rfl) T.n_len bt_len (pa_cons (pv 3) pa_nil))) (fun _ _ => rfl))) (pss_one (q_set 4 nd (pe_op op_dAdd (pv 4) (pe_op op_dDiv (pv 7) (pe_op op_dAdd pe_int (pe_op op_dMod (pe_callTy cl_int (by rfl) T.n_int bt_int (pa_cons (pe_op op_dDiv (pv 5) (pe_callB (cl_len K) (by rfl) T.n_len bt_len (pa_cons (pv 3) pa_nil))) pa_nil)) pe_int))))))) pss_nil) (pss_cons (ps_asg (pe_op op_dMod (pe_callTy cl_int (by rfl) T.n_int bt_int (pa_cons (pe_op op_dAdd (pe_op op_dMul (pv 4) pe_int) pe_int) pa_nil)) pe_int) (pg_sub (pv 0) pe_int set_list)) (pss_one (ps_ret (pe_op op_dMod (pe_callTy cl_int (by rfl) T.n_int bt_int (pa_cons (pe_op op_dDiv (pe_ix (ix_dyn K) (pv 0) pe_int (fun _ _ => rfl)) pe_int) pa_nil)) (pv 1))))))))))), ?_⟩
    refine g_start (σ' := some _ :: some _ :: none :: none :: none :: none :: none :: none :: []) rfl ?_
    walk_at "go"
    have fin : ∀ {H' : Hp} {gs' : List Int} {sd' r : Int}, PoolH H' a g s gs' ss sd' (ct + 1) → (∀ b, b ≠ a → b ≠ g → b ≠ s → H' b = H b) → drawR gs ss sd ct m = (r, gs', sd') → Q (.int r) H' := fun {H' gs' sd' r} hp ho hd => by
      rw [hd] at kk
      exact kk H' hp ho
    refine g_gtupL (.inl (.inl P0.ha)) rfl ?_
    walk_at "go"
    generalize hE1 : upd H a _ = H1
    obtain ⟨P1, o1⟩ : PoolH H1 a g s gs ss sd (ct + 1) ∧ ∀ b, b ≠ a → b ≠ g → b ≠ s → H1 b = H b := by
      subst hE1
      exact ⟨P0.upA, fun b n _ _ => upd_ne n⟩
    clear hE1 pa
    have pg := P1.hg
    refine g_cut (fun σ' H' => σ' = [some (.ref a), some (.int m), some (.ref g), some (.ref s), some (.int sd), some (.int ct), none, none] ∧ PoolH H' a g s (grt gs) ss sd (ct + 1) ∧ ∀ b, b ≠ a → b ≠ g → b ≠ s → H' b = H b) (fun R hR => ?_) ?_
    · walk_at "go"
      refine ⟨!(gs.map V.int).isEmpty, .inl ⟨_, .inl (.inl pg), rfl⟩, ?_⟩
      cases gs with
      | nil =>
        refine g_iteF rfl ?_
        walk_at "go"
        exact hR _ _ ⟨rfl, P1, o1⟩
      | cons g0 r =>
        refine g_iteT rfl ?_
        walk_at "go"
        refine g_ix_l (Or.inl (Or.inl (Or.inl pg))) (atI_of (i := 0) rfl) ?_
        walk_at "go"
        refine g_iteD (fun h => ?_) (fun h => ?_)
        · walk_at "go"
          refine ⟨g, _, 0, 0, .int g0, rfl, rfl, pg, by decide, by decide, by simp [seqIndex?], rfl, ?_⟩
          refine hR _ _ ⟨rfl, ?_, fun b n1 n2 n3 => by rw [upd_ne n2]; exact o1 b n1 n2 n3⟩
          rw [show grt (g0 :: r) = r from if_pos h]
          exact P1.upG (gs' := r)
        · walk_at "go"
          exact hR _ _ ⟨rfl, by rw [show grt (g0 :: r) = g0 :: r from if_neg h]; exact P1, o1⟩
    rintro σ' H2 ⟨rfl, P2, o2⟩
    walk_at "go"
    refine ⟨!((grt gs).map V.int).isEmpty, .inl ⟨_, .inl (.inl P2.hg), rfl⟩, ?_⟩
    cases hgt : grt gs with
    | cons g0 r =>
      rw [hgt] at P2
      have hd : drawR gs ss sd ct m = (g0 % m, g0 / m :: r, sd) := by unfold drawR; rw [hgt]
      refine g_iteT rfl ?_
      walk_at "go"
      refine g_ix_l (Or.inl (Or.inl (Or.inl P2.hg))) (atI_of (i := 0) rfl) ?_
      walk_at "go"
      refine g_ix_l (Or.inl (Or.inl (Or.inl P2.hg))) (atI_of (i := 0) rfl) ?_
      walk_at "go"
      have pg2 := P2.hg
      have hlog : m.natAbs.log2 < 9000 := by omega
      refine g_div_i ⟨z1, hlog⟩ ?_
      walk_at "go"
      refine g_setL (n := 0) pg2 (by simp [ixN]) ?_
      walk_at "go"
      exact fin (H' := upd H2 g (.lst ((g0 / m :: r).map V.int))) (P2.upG (gs' := g0 / m :: r)) (fun b n1 n2 n3 => by rw [upd_ne n2]; exact o2 b n1 n2 n3) hd
    | nil =>
      rw [hgt] at P2
      have hd : drawR gs ss sd ct m = (seed3 ss sd ct / 8 % m, [], seed3 ss sd ct) := by unfold drawR; rw [hgt]
      refine g_iteF rfl ?_
      walk_at "go"
      refine g_cut (fun σ' H' => ∃ x, σ' = [some (.ref a), some (.int m), some (.ref g), some (.ref s), some (.int (seed2 ss sd ct)), some (.int ct), none, x] ∧ H' = H2) (fun R hR => ?_) ?_
      · walk_at "go"
        refine ⟨!(ss.map V.int).isEmpty, .inl ⟨_, .inl (.inl P2.hs), rfl⟩, ?_⟩
        cases ss with
        | nil =>
          refine g_iteF rfl ?_
          walk_at "go"
          exact hR _ _ ⟨_, rfl, rfl⟩
        | cons s0 r =>
          refine g_iteT rfl ?_
          walk_at "go"
          have hl : ((s0 :: r).map V.int).length = (s0 :: r).length := List.length_map ..
          have hp : (0 : Int) < ((s0 :: r).length : Nat) := by rw [List.length_cons]; omega
          have q1 := Int.emod_nonneg ct (show (((s0 :: r).length : Nat) : Int) ≠ 0 by omega)
          have q2 := Int.emod_lt_of_pos ct hp
          refine g_len_l (Or.inl (Or.inl (Or.inl P2.hs))) ?_
          rw [hl]
          refine g_mod_i hp ?_
          refine g_ix_l (Or.inl (Or.inl (Or.inl P2.hs))) (at_ints q1 q2) ?_
          walk_at "go"
          refine g_len_l (Or.inl (Or.inl (Or.inl P2.hs))) ?_
          rw [hl]
          refine g_div_i ⟨hp, log_lt0 (by rw [Int.natAbs_natCast]; omega)⟩ ?_
          walk_at "go"
          have q3 := Int.emod_nonneg (ct / ((s0 :: r).length : Nat)) (show (5 : Int) ≠ 0 by decide)
          have q4 := Int.emod_lt_of_pos (ct / ((s0 :: r).length : Nat)) (show (0 : Int) < 5 by decide)
          refine g_div_i ⟨by omega, log_lt0 (by omega)⟩ ?_
          walk_at "go"
          exact hR _ _ ⟨_, rfl, rfl⟩
      rintro σ' H3 ⟨x, rfl, rfl⟩
      have pa3 := P2.ha
      walk_at "go"
      generalize hE4 : upd H3 a _ = H4
      obtain ⟨P4, o4⟩ : PoolH H4 a g s [] ss (seed3 ss sd ct) (ct + 1) ∧ ∀ b, b ≠ a → b ≠ g → b ≠ s → H4 b = H b := by
        subst hE4
        exact ⟨P2.upA, fun b n1 n2 n3 => by rw [upd_ne n1]; exact o2 b n1 n2 n3⟩
      clear hE4 pa3
      walk_at "go"
      exact fin P4 o4 hd
end
section
variable {P : Program} {w : World} {K : PySem.W.Frag} {mg : Str → Option Value} {base : Heap}
theorem ok_law_value {f : Addr} {fd : FuncData} (F : FnP K "_law_value" "_law_value" s_law_value f fd) (T : Txt K mg) (C_law_draw : Cal P w K mg base 1 "_law_draw" ["_law_pool_here", "_law_many"] (sp_law_draw K))  : FnOk P w K mg base (L2.CX P w) 2 f fd ["_law_pool_here"] (sp_law_value K) := by
  refine F.ok sc_law_value (fun vs H Q E h => ?_) (fun cdv A outer s H vs Q E hr h => ?_)
  · obtain ⟨W, a, g, s, rfl, _⟩ := h
    rfl
  · have nd := sc_law_value.nd
    have tk := takes_of (E := E) (X := (cxOf (L2.CX P w) P w K mg base ["_law_pool_here", "_law_kind", "_law_number"] "_law_value" (defScope s_law_value) f cdv A outer s H E)) rfl rfl rfl rfl
    have po : PassesOwn (model P w) (cxOf (L2.CX P w) P w K mg base ["_law_pool_here", "_law_kind", "_law_number"] "_law_value" (defScope s_law_value) f cdv A outer s H E).A (cxOf (L2.CX P w) P w K mg base ["_law_pool_here", "_law_kind", "_law_number"] "_law_value" (defScope s_law_value) f cdv A outer s H E).env (cxOf (L2.CX P w) P w K mg base ["_law_pool_here", "_law_kind", "_law_number"] "_law_value" (defScope s_law_value) f cdv A outer s H E).xe := passes_of (X := (cxOf (L2.CX P w) P w K mg base ["_law_pool_here", "_law_kind", "_law_number"] "_law_value" (defScope s_law_value) f cdv A outer s H E)) rfl
    obtain ⟨W, a, g, s, rfl, P, w, k⟩ := h
    refine ⟨_, (pss_cons (q_set 1 nd (q_call C_law_draw tk (hr.mono (by decide)) (pa_cons (pv 0) (pa_cons pe_int pa_nil)))) (pss_cons (q_set 2 nd (pe_op op_dSub (q_call C_law_draw tk (hr.mono (by decide)) (pa_cons (pv 0) (pa_cons (pe_op op_dPow pe_int pe_int) pa_nil))) (pe_op op_dPow pe_int pe_int))) (pss_cons (ps_if (pt_cmpR (op_dEq K hr.units) (pv 1) pe_int (nomark _)) (pss_one (ps_ret pe_non)) pss_nil) (pss_cons (ps_if (pt_cmpR (op_dEq K hr.units) (pv 1) pe_int (nomark _)) (pss_one (ps_ret (pe_cmpR op_dGe (pv 2) pe_int (nomark _)))) pss_nil) (pss_cons (ps_if (pt_cmpR (op_dEq K hr.units) (pv 1) pe_int (nomark _)) (pss_one (ps_ret (pe_tup (pa_cons (pv 2) (pa_cons pe_str pa_nil))))) pss_nil) (pss_cons (ps_if (pt_cmpR (op_dEq K hr.units) (pv 1) pe_int (nomark _)) (pss_one (ps_ret (pe_lst (pa_cons (pv 2) (pa_cons pe_non pa_nil))))) pss_nil) (pss_cons (ps_if (pt_cmpR (op_dEq K hr.units) (pv 1) pe_int (nomark _)) (pss_one (ps_ret (pe_slice (sl_dyn K) pe_str po_none (po_some (q_call C_law_draw tk (hr.mono (by decide)) (pa_cons (pv 0) (pa_cons pe_int pa_nil))))))) pss_nil) (pss_cons (ps_if (pt_cmpR (op_dEq K hr.units) (pv 1) pe_int (nomark _)) (pss_one (ps_ret (q_call C_law_draw tk (hr.mono (by decide)) (pa_cons (pv 0) (pa_cons pe_int pa_nil))))) pss_nil) (pss_one (ps_ret (pv 2))))))))))), ?_⟩
    refine g_start (σ' := some _ :: none :: none :: []) rfl ?_
    walk_at "gb"
    refine call_draw P (by decide) (by decide) fun d1 H1 p1 p2 e1 P1 => ?_
    walk_at "gb"
    refine call_draw P1 (by decide) (by decide +kernel) fun d2 H2 q1 q2 e2 P2 => ?_
    have e12 := e1.tr e2 fun a z => .inl z
    have w2 := w.ed e12
    walk_at "gb"
    have hb : (d2 - 10 ^ Int.toNat 29 : Int).natAbs ≤ 10 ^ 30 := by
      have q2 : d2 < 10 ^ 30 := q2
      show (d2 - 10 ^ 29 : Int).natAbs ≤ 10 ^ 30
      have h1 : (10 : Int) ^ 29 = 100000000000000000000000000000 := by decide +kernel
      have h2 : (10 : Int) ^ 30 = 1000000000000000000000000000000 := by decide +kernel
      have h3 : (10 : Nat) ^ 30 = 1000000000000000000000000000000 := by decide +kernel
      rw [h1, h3]
      rw [h2] at q2
      omega
    generalize (d2 - 10 ^ Int.toNat 29 : Int) = i at hb
    refine g_iteD (fun _ => ?_) (fun _ => ?_)
    · walk_at "gb"
      exact k _ _ H2 e12 P2 .non ⟨i, hb, .inl rfl⟩
    walk_at "gb"
    refine g_iteD (fun _ => ?_) (fun _ => ?_)
    · walk_at "gb"
      exact k _ _ H2 e12 P2 (.bl _) ⟨i, hb, .inr (.inl rfl)⟩
    walk_at "gb"
    refine g_iteD (fun _ => ?_) (fun _ => ?_)
    · walk_at "gb"
      refine g_dt (ds := [.int i, .str "a"]) (.cons (.int i) (.cons (.str _) .nil)) w2 (Nat.le_of_ble_eq_true rfl) fun p H3 hp e3 d3 => ?_
      exact k _ _ H3 (e12.tr e3 no0) (P2.ed0 e3) d3 ⟨i, hb, .inr (.inr (.inl rfl))⟩
    walk_at "gb"
    refine g_iteD (fun _ => ?_) (fun _ => ?_)
    · walk_at "gb"
      refine g_dl (ds := [.int i, .none]) (.cons (.int i) (.cons .non .nil)) w2 (Nat.le_of_ble_eq_true rfl) fun p H3 hp e3 d3 => ?_
      exact k _ _ H3 (e12.tr e3 no0) (P2.ed0 e3) d3 ⟨i, hb, .inr (.inr (.inr (.inl rfl)))⟩
    walk_at "gb"
    refine g_iteD (fun _ => ?_) (fun _ => ?_)
    · walk_at "gb"
      refine call_draw P2 (by decide) (by decide) fun d3 H3 r1 r2 e3 P3 => ?_
      obtain ⟨n, rfl⟩ := Int.eq_ofNat_of_zero_le r1
      walk_at "gb"
      refine g_slS (Nat.le_of_ble_eq_true rfl) ?_
      exact k _ _ H3 (e12.tr e3 fun a z => .inl z) P3 (.str _) ⟨i, hb, .inr (.inr (.inr (.inr (.inr ⟨n, by omega, rfl⟩))))⟩
    walk_at "gb"
    refine g_iteD (fun _ => ?_) (fun _ => ?_)
    · walk_at "gb"
      refine call_draw P2 (by decide) (by decide) fun d3 H3 r1 r2 e3 P3 => ?_
      walk_at "gb"
      exact k _ _ H3 (e12.tr e3 fun a z => .inl z) P3 (.int _) ⟨d3, by omega, .inr (.inr (.inr (.inr (.inl rfl))))⟩
    walk_at "gb"
    exact k _ _ H2 e12 P2 (.int _) ⟨i, hb, .inr (.inr (.inr (.inr (.inl rfl))))⟩
end
section
variable {P : Program} {w : World} {K : PySem.W.Frag} {mg : Str → Option Value} {base : Heap}
theorem ok_law_word {f : Addr} {fd : FuncData} (F : FnP K "_law_word" "_law_word" s_law_word f fd) (T : Txt K mg) (C_law_draw : Cal P w K mg base 1 "_law_draw" ["_law_pool_here", "_law_many"] (sp_law_draw K))  : FnOk P w K mg base (L2.CX P w) 2 f fd ["_law_pool_here", "_law_taken"] (sp_law_word K) := by
  refine F.ok sc_law_word (fun vs H Q E h => ?_) (fun cdv A outer s H vs Q E hr h => ?_)
  · obtain ⟨a, g, s, t, ws, rfl, _⟩ := h
    rfl
  · have nd := sc_law_word.nd
    have tk := takes_of (E := E) (X := (cxOf (L2.CX P w) P w K mg base ["_law_pool_here", "_law_taken", "_law_letters", "_law_word_here", "_law_k", "_law_at", "_law_x"] "_law_word" (defScope s_law_word) f cdv A outer s H E)) rfl rfl rfl rfl
    have po : PassesOwn (model P w) (cxOf (L2.CX P w) P w K mg base ["_law_pool_here", "_law_taken", "_law_letters", "_law_word_here", "_law_k", "_law_at", "_law_x"] "_law_word" (defScope s_law_word) f cdv A outer s H E).A (cxOf (L2.CX P w) P w K mg base ["_law_pool_here", "_law_taken", "_law_letters", "_law_word_here", "_law_k", "_law_at", "_law_x"] "_law_word" (defScope s_law_word) f cdv A outer s H E).env (cxOf (L2.CX P w) P w K mg base ["_law_pool_here", "_law_taken", "_law_letters", "_law_word_here", "_law_k", "_law_at", "_law_x"] "_law_word" (defScope s_law_word) f cdv A outer s H E).xe := passes_of (X := (cxOf (L2.CX P w) P w K mg base ["_law_pool_here", "_law_taken", "_law_letters", "_law_word_here", "_law_k", "_law_at", "_law_x"] "_law_word" (defScope s_law_word) f cdv A outer s H E)) rfl
    obtain ⟨a, g, s, t, ws, rfl, P, ht, ta, tg, hz, hws, k⟩ := h
    refine ⟨_, (pss_cons (q_set 2 nd pe_str) (pss_cons (q_set 3 nd (q_bm K PySem.F.plainAttrs_str PySem.F.slot_str_join PySem.F.type_str_join (m_join K) pe_str (pa_cons (pe_lc (own := [("_law_k", 4)]) (tt := tYes) rfl nd (pi_range1 rfl T.n_range (pa_cons (pe_op op_dAdd pe_int (q_call C_law_draw tk (hr.mono (by decide)) (pa_cons (pv 0) (pa_cons pe_int pa_nil)))) pa_nil)) (blkOk_by (own := [("_law_k", 4)]) (N := ["_law_pool_here", "_law_taken", "_law_letters", "_law_word_here", "_law_k", "_law_at", "_law_x"]) (sc := defScope s_law_word) (by decide +kernel)) (fun _ _ _ _ _ => (q_name 4 nd)) (fun _ _ _ _ _ => pts_nil) (fun _ _ _ _ _ => (pe_ix (ix_dyn K) (pv 2) (q_call C_law_draw takes0 (hr.mono (by decide)) (pa_cons (pv 0) (pa_cons pe_int pa_nil))) (fun _ _ => rfl)))) pa_nil))) (pss_cut (ps_if (PW.pt (pw_and (q_truth K (pv 1)) (pw_and1 (pt_cmpR (op_dEq K hr.units) (q_call C_law_draw tk (hr.mono (by decide)) (pa_cons (pv 0) (pa_cons pe_int pa_nil))) pe_int (nomark _))))) (pss_cons (q_set 5 nd (q_call C_law_draw tk (hr.mono (by decide)) (pa_cons (pv 0) (pa_cons (pe_callB (cl_len K) (by rfl) T.n_len bt_len (pa_cons (pe_ix (ix_dyn K) (pv 1) (pe_un un_neg pe_int) (fun _ _ => rfl)) pa_nil)) pa_nil)))) (pss_one (q_set 3 nd (pe_op op_dAdd (pe_op op_dAdd (pe_slice (sl_dyn K) (pe_ix (ix_dyn K) (pv 1) (pe_un un_neg pe_int) (fun _ _ => rfl)) po_none (po_some (pv 5))) (pe_ix (ix_dyn K) (pv 2) (q_call C_law_draw tk (hr.mono (by decide)) (pa_cons (pv 0) (pa_cons pe_int pa_nil))) (fun _ _ => rfl))) (pe_slice (sl_dyn K) (pe_ix (ix_dyn K) (pv 1) (pe_un un_neg pe_int) (fun _ _ => rfl)) (po_some (pe_op op_dAdd (pv 5) pe_int)) po_none))))) pss_nil) (pss_cut (ps_if (pt_cmpR (op_dIn K) (pv 3) (pv 1) (by rfl)) (pss_one (q_set 3 nd (pe_ix (ix_dyn K) (pe_lc (own := [("_law_x", 6)]) rfl nd (pi_str (pv 2)) (blkOk_by (own := [("_law_x", 6)]) (N := ["_law_pool_here", "_law_taken", "_law_letters", "_law_word_here", "_law_k", "_law_at", "_law_x"]) (sc := defScope s_law_word) (by decide +kernel)) (fun _ _ _ _ _ => (q_name 6 nd)) (fun _ _ _ _ _ => (pts_one (pt_cmpR (op_dNotIn K) (pe_op op_dAdd (pe_slice (sl_dyn K) (pv 3) po_none (po_some (pe_un un_neg pe_int))) (pv 6)) (pv 1) (by rfl)))) (fun _ _ _ _ _ => (pe_op op_dAdd (pe_slice (sl_dyn K) (pv 3) po_none (po_some (pe_un un_neg pe_int))) (pv 6)))) pe_int (fun _ _ => rfl)))) pss_nil) (pss_one (ps_ret (pv 3))))))), ?_⟩
    refine g_start (σ' := some _ :: some _ :: none :: none :: none :: none :: none :: []) rfl ?_
    walk_at "gb"
    refine call_draw P (by decide) (by decide) fun d1 H1 p1 p2 e1 P1 => ?_
    walk_at "gb"
    intro D hD
    refine lc_by walk_range (fun i H' => ∃ cs : List Nat, H' D = some (.lst (cs.map fun c => V.str ⟨#[c]⟩)) ∧ cs.length = i ∧ (∀ c ∈ cs, 97 ≤ c ∧ c ≤ 122) ∧ Pool H' a g s ∧ (∀ b o, b ≠ D → b ∉ [a, g] → H1 b = some o → H' b = some o) ∧ ∀ b, H1 b ≠ none → H' b ≠ none) ?_ (fun _ _ _ _ => trivial) ?_ ?_
    · exact ⟨[], upd_same, rfl, (fun c hc => by cases hc), P1.ed0 (Ed.new hD), (fun b o n1 n2 h => by rw [upd_ne n1]; exact h), fun b h => (Ed.new hD).2 b h⟩
    · rintro i x H2 H3 hi ⟨cs, hD2, hl, hc, P2, kp, lv⟩ ⟨rfl, rfl⟩
      simp only [wipe_cons, wipe_nil, List.map_cons, List.map_nil, List.set_cons_succ, List.set_cons_zero]
      walk_at "gb"
      refine ⟨by first | rfl | walk_at "wipe", ?_⟩
      walk_at "gb"
      refine call_draw P2 (by decide) (by decide) fun d2 H3 q1 q2 e2 P3 => ?_
      obtain ⟨j, rfl⟩ := Int.eq_ofNat_of_zero_le q1
      have hDl : D ∉ [a, g] := by
        have h1 : D ≠ a := fun z => P1.alive.1 (by rw [← z]; exact hD)
        have h2 : D ≠ g := fun z => P1.alive.2.1 (by rw [← z]; exact hD)
        simp [h1, h2]
      have hDs : D ≠ s := fun z => P1.alive.2.2 (by rw [← z]; exact hD)
      refine g_ix_s (by decide +kernel) (lets_at j (by omega)) ?_
      have hD3 := e2.get hDl hD2
      refine ⟨_, hD3, by rw [List.length_map, hl, sizeLine_eq]; omega, cs ++ [97 + j], by rw [upd_same, List.map_append]; rfl, by rw [List.length_append, hl]; rfl, fun c hc2 => ?_, P3.ed Ed.put (fun z => hDl (by rw [← List.mem_singleton.mp z]; simp)) (fun z => hDl (by rw [← List.mem_singleton.mp z]; simp)) (fun z => hDs (List.mem_singleton.mp z).symm), fun b o n1 n2 h => by rw [upd_ne n1]; exact e2.get n2 (kp b o n1 n2 h), fun b h => Ed.put.2 b (e2.2 b (lv b h))⟩
      rcases List.mem_append.mp hc2 with h | h
      · exact hc c h
      · have : c = 97 + j := by simpa using h
        omega
    · rintro H2 ⟨cs, hD2, hl, hc, P2, kp, lv⟩
      have hlt : ∀ x ∈ cs.map fun c => (⟨#[c]⟩ : Str), Lt x := fun x hx => by
        obtain ⟨c, h, rfl⟩ := List.mem_map.mp hx
        exact ⟨c, rfl, hc c h⟩
      have hD2' : H2 D = some (.lst ((cs.map fun c => (⟨#[c]⟩ : Str)).map V.str)) := by rw [List.map_map]; exact hD2
      have e2 : Ed [a, g] H H2 := e1.tr ⟨fun b o n h => kp b o (ne_of_none h hD) n h, lv⟩ fun b z => .inl z
      have tag : t ∉ [a, g] := by simp [ta, tg]
      have ht2 := e2.get tag ht
      obtain ⟨j1, j2⟩ := join_lt hlt
      rw [List.length_map, hl] at j2
      walk_at "gb"
      refine g_join (.inl (SqL.of hD2')) (lt_sum hlt (by rw [List.length_map, hl]; omega)) ?_
      rw [join_txt]
      generalize Str.join "" (cs.map fun c => (⟨#[c]⟩ : Str)) = w at j1 j2
      walk_at "gb"
      have hw0 : WOk w := ⟨j1, by omega, by omega⟩
      have pm : ∀ (u : Str), u.length ≤ 8 → ((u.length : Nat) : Int).natAbs.log2 < 200 := fun u h => by
        rw [Int.natAbs_natCast]
        exact Nat.lt_of_le_of_lt (Nat.log2_le_self _) (by omega)
      refine g_cut (fun σ' H' => ∃ (w' : Str) (v : Option V), σ' = [some (.ref a), some (.ref t), some (.str "abcdefghijklmnopqrstuvwxyz"), some (.str w'), none, v, none] ∧ WOk w' ∧ Ed [a, g] H H' ∧ Pool H' a g s) (fun R hR => ?_) ?_
      · walk_at "gb"
        refine ⟨!(ws.map V.str).isEmpty, .inl ⟨_, .inl (.inl ht2), rfl⟩, ?_⟩
        rcases List.eq_nil_or_concat ws with rfl | ⟨L, u, rfl⟩
        · refine iteF' rfl ?_
          walk_at "gb"
          exact hR _ _ ⟨w, _, rfl, hw0, e2, P2⟩
        · refine iteT' (by simp) ?_
          have hu := hws u (by simp)
          have hu1 := hu.2.1
          have hu2 := hu.2.2
          walk_at "gb"
          refine call_draw P2 (by decide) (by decide) fun d3 H3 q1 q2 e3 P3 => ?_
          have e13 := e2.tr e3 fun b z => .inl z
          have ht3 := e13.get tag ht
          rw [List.concat_eq_append, List.map_append] at ht3
          walk_at "gb"
          refine g_iteD (fun _ => ?_) (fun _ => ?_)
          · walk_at "gb"
            refine g_ix_l (Or.inl (SqL.of ht3)) at_last ?_
            walk_at "gb"
            refine call_draw P3 (by omega) (pm u hu.2.2) fun d4 H4 r1 r2 e4 P4 => ?_
            obtain ⟨j, rfl⟩ := Int.eq_ofNat_of_zero_le r1
            have e14 := e13.tr e4 fun b z => .inl z
            have ht4 := e14.get tag ht
            rw [List.concat_eq_append, List.map_append] at ht4
            walk_at "gb"
            refine g_ix_l (Or.inl (SqL.of ht4)) at_last ?_
            walk_at "gb"
            refine g_slS (by rw [sizeLine_eq]; omega) ?_
            walk_at "gb"
            refine call_draw P4 (by decide) (by decide) fun d5 H5 s1 s2 e5 P5 => ?_
            obtain ⟨c, rfl⟩ := Int.eq_ofNat_of_zero_le s1
            have e15 := e14.tr e5 fun b z => .inl z
            have ht5 := e15.get tag ht
            rw [List.concat_eq_append, List.map_append] at ht5
            refine g_ix_s (by decide +kernel) (lets_at c (by omega)) ?_
            have l1 := cutS_length u none (some ((j : Nat) : Int))
            refine g_add_s (by rw [sizeLine_eq]; show _ + 1 ≤ _; omega) ?_
            walk_at "gb"
            refine g_ix_l (Or.inl (SqL.of ht5)) at_last ?_
            walk_at "gb"
            refine g_slS (by rw [sizeLine_eq]; omega) ?_
            rw [show ((j : Int) + 1) = ((j + 1 : Nat) : Int) from by omega]
            have l2 := cutS_length u (some ((j + 1 : Nat) : Int)) none
            refine g_add_s (by rw [sizeLine_eq, Str.length_append]; show _ + 1 + _ ≤ _; omega) ?_
            obtain ⟨k1, k2⟩ := swap_ok (w := u) (j := j) (c := 97 + c) hu.1 hu.2.1 (by omega) (by omega)
            walk_at "gb"
            exact hR _ _ ⟨_, _, rfl, ⟨k1, by omega, by omega⟩, e15, P5⟩
          · walk_at "gb"
            exact hR _ _ ⟨w, _, rfl, hw0, e13, P3⟩
      clear j1 j2 hw0 hlt hD2 hD2' ht2 hl hc kp lv e1 P1 P2 e2 hD
      rintro σ' H3 ⟨w', v, rfl, hw, e3, P3⟩
      have ht3 := e3.get tag ht
      refine g_cut (fun σ' H' => ∃ (w' : Str) (v v2 : Option V), σ' = [some (.ref a), some (.ref t), some (.str "abcdefghijklmnopqrstuvwxyz"), some (.str w'), none, v, v2] ∧ WOk w' ∧ w' ∉ ws ∧ Ed [a, g] H H' ∧ Pool H' a g s) (fun R hR => ?_) ?_
      · walk_at "gb"
        refine g_iteD (fun hin => ?_) (fun hin => ?_)
        · walk_at "gb"
          intro D2 hD2
          have ntD : t ≠ D2 := ne_of_none ht3 hD2
          have hw1 := hw.2.1
          have hw2 := hw.2.2
          have lc := cutS_length w' none (some (-1))
          refine lc_by walk_str (fun i H' => H' = upd H3 D2 (.lst (((lets.cps.toList.take i).filter fun c => !decide (wdx w' c ∈ ws)).map fun c => V.str (wdx w' c)))) rfl (fun _ _ _ _ => trivial) (fun i x H4 H5 hi hh hy => ?_) (fun H4 hh => ?_)
          · subst hh
            obtain ⟨rfl, c, hc, rfl⟩ := hy
            have hc' : lets.cps.toList[i]? = some c := by rw [Array.getElem?_toList]; exact hc
            have htk : lets.cps.toList.take (i + 1) = lets.cps.toList.take i ++ [c] := by rw [List.take_succ, hc']; rfl
            have ht4 : (upd H3 D2 (.lst (((lets.cps.toList.take i).filter fun c => !decide (wdx w' c ∈ ws)).map fun c => V.str (wdx w' c)))) t = some (.lst (ws.map V.str)) := by rw [upd_ne ntD]; exact ht3
            simp only [wipe_cons, wipe_nil, List.map_cons, List.map_nil, List.set_cons_succ, List.set_cons_zero]
            walk_at "gb"
            refine ⟨by first | rfl | walk_at "wipe", ?_⟩
            walk_at "gb"
            refine g_slS (by rw [sizeLine_eq]; omega) ?_
            walk_at "gb"
            refine g_add_s (by rw [sizeLine_eq]; show _ + 1 ≤ _; omega) ?_
            walk_at "gb"
            refine g_ite (fun hb => ?_) (fun hb => ?_)
            · walk_at "gb"
              refine g_slS (by rw [sizeLine_eq]; omega) ?_
              walk_at "gb"
              refine g_add_s (by rw [sizeLine_eq]; show _ + 1 ≤ _; omega) ?_
              refine ⟨_, upd_same, by rw [List.length_map, sizeLine_eq]; have h1 := List.length_filter_le (fun c => !decide (wdx w' c ∈ ws)) (lets.cps.toList.take i); rw [List.length_take] at h1; have h26 : lets.cps.toList.length = 26 := (by decide +kernel); omega, ?_⟩
              rw [upd_upd, htk, List.filter_append, List.map_append]
              have : ([c].filter fun c => !decide (wdx w' c ∈ ws)) = [c] := by
                have hb : (!decide (wdx w' c ∈ ws)) = true := hb
                simp only [List.filter_cons, hb, List.filter_nil, if_true]
              rw [this]; rfl
            · rw [htk, List.filter_append]
              have : ([c].filter fun c => !decide (wdx w' c ∈ ws)) = [] := by
                have hb : (!decide (wdx w' c ∈ ws)) = false := hb
                simp only [List.filter_cons, hb, List.filter_nil, Bool.false_eq_true, if_false]
              rw [this, List.append_nil]
          · subst hh
            have hsz : ("abcdefghijklmnopqrstuvwxyz" : Str).cps.size = lets.cps.toList.length := rfl
            rw [hsz, List.take_length]
            obtain ⟨c, hcm, hcn⟩ := wdx_some (w := w') hz
            cases hf : lets.cps.toList.filter fun c => !decide (wdx w' c ∈ ws) with
            | nil =>
              have : c ∈ lets.cps.toList.filter fun c => !decide (wdx w' c ∈ ws) := List.mem_filter.mpr ⟨hcm, by simp [hcn]⟩
              rw [hf] at this
              cases this
            | cons c0 r =>
              have hc0 : c0 ∈ lets.cps.toList.filter fun c => !decide (wdx w' c ∈ ws) := by rw [hf]; exact List.mem_cons_self ..
              obtain ⟨m1, m2⟩ := List.mem_filter.mp hc0
              have m3 : wdx w' c0 ∉ ws := by simpa using m2
              obtain ⟨k1, k2⟩ := wdx_ok hw.1 hw1 (lets_of c0 m1)
              walk_at "gb"
              refine g_ix_l (Or.inl (SqL.of upd_same)) (atI_of (i := 0) rfl) ?_
              walk_at "gb"
              exact hR _ _ ⟨_, _, _, rfl, ⟨k1, by omega, by omega⟩, m3, e3.tr (Ed.new hD2) no0, P3.ed0 (Ed.new hD2)⟩
        · walk_at "gb"
          exact hR _ _ ⟨w', _, _, rfl, hw, hin, e3, P3⟩
      · rintro σ' H4 ⟨w2, v, v2, rfl, hw2, hn2, e4, P4⟩
        walk_at "gb"
        exact k w2 H4 e4 P4 hw2 hn2
end
section
variable {P : Program} {w : World} {K : PySem.W.Frag} {mg : Str → Option Value} {base : Heap}
theorem ok_law_words {f : Addr} {fd : FuncData} (F : FnP K "_law_words" "_law_words" s_law_words f fd) (T : Txt K mg) (C_law_word : Cal P w K mg base 2 "_law_word" ["_law_pool_here", "_law_taken"] (sp_law_word K))  : FnOk P w K mg base (L2.CX P w) 3 f fd ["_law_pool_here", "_law_many"] (sp_law_words K) := by
  refine F.ok sc_law_words (fun vs H Q E h => ?_) (fun cdv A outer s H vs Q E hr h => ?_)
  · obtain ⟨a, g, s, n, rfl, _⟩ := h
    rfl
  · have nd := sc_law_words.nd
    have tk := takes_of (E := E) (X := (cxOf (L2.CX P w) P w K mg base ["_law_pool_here", "_law_many", "_law_words_here", "_law_k"] "_law_words" (defScope s_law_words) f cdv A outer s H E)) rfl rfl rfl rfl
    have po : PassesOwn (model P w) (cxOf (L2.CX P w) P w K mg base ["_law_pool_here", "_law_many", "_law_words_here", "_law_k"] "_law_words" (defScope s_law_words) f cdv A outer s H E).A (cxOf (L2.CX P w) P w K mg base ["_law_pool_here", "_law_many", "_law_words_here", "_law_k"] "_law_words" (defScope s_law_words) f cdv A outer s H E).env (cxOf (L2.CX P w) P w K mg base ["_law_pool_here", "_law_many", "_law_words_here", "_law_k"] "_law_words" (defScope s_law_words) f cdv A outer s H E).xe := passes_of (X := (cxOf (L2.CX P w) P w K mg base ["_law_pool_here", "_law_many", "_law_words_here", "_law_k"] "_law_words" (defScope s_law_words) f cdv A outer s H E)) rfl
    obtain ⟨a, g, s, n, rfl, P, hn, k⟩ := h
    refine ⟨_, (pss_cons (q_set 2 nd (pe_lst pa_nil)) (pss_cons (ps_for po rfl (pi_range1 rfl T.n_range (pa_cons (pv 1) pa_nil)) (q_name 3 nd) (pss_one (ps_expr (q_bm K PySem.F.plainAttrs_list PySem.F.slot_list_append PySem.F.type_list_append m_append (pv 2) (pa_cons (q_call C_law_word tk (hr.mono (by decide)) (pa_cons (pv 0) (pa_cons (pv 2) pa_nil))) pa_nil))))) (pss_one (ps_ret (pv 2))))), ?_⟩
    refine g_start (σ' := some _ :: some _ :: none :: none :: []) rfl ?_
    walk_at "gb"
    refine ⟨Nat.zero_le _, fun p hp => ?_⟩
    walk_at "gb"
    refine lp_it walk_range (fun i σ' H' => ∃ (ws : List Str) (v : Option V), σ' = [some (.ref a), some (.int n), some (.ref p), v] ∧ Pool H' a g s ∧ (∀ b o, b ≠ p → b ∉ [a, g] → H b = some o → H' b = some o) ∧ (∀ b, H b ≠ none → H' b ≠ none) ∧ H' p = some (.lst (ws.map V.str)) ∧ ws.length = i ∧ (∀ w ∈ ws, WOk w) ∧ ws.Nodup) ?_ (fun _ _ _ _ _ => trivial) ?_ ?_
    · exact ⟨[], none, rfl, P.ed0 (Ed.new hp), (fun b o n1 n2 h => by rw [upd_ne n1]; exact h), (fun b h => (Ed.new hp).2 b h), upd_same, rfl, (fun w hw => by cases hw), List.nodup_nil⟩
    · rintro i x σ H1 H2 hi ⟨ws, v, rfl, P1, kp, lv, hp1, hl, hw, hnd⟩ ⟨rfl, rfl⟩
      have pa : p ≠ a := fun z => P.alive.1 (by rw [← z]; exact hp)
      have pg : p ≠ g := fun z => P.alive.2.1 (by rw [← z]; exact hp)
      have ps : p ≠ s := fun z => P.alive.2.2 (by rw [← z]; exact hp)
      have npl : p ∉ [a, g] := by simp [pa, pg]
      rw [Int.toNat_natCast] at hi
      walk_at "gb"
      refine ⟨a, g, s, p, ws, rfl, P1, hp1, pa, pg, by omega, hw, fun w H3 e3 P3 w3 n3 => ?_⟩
      have hp3 := e3.get npl hp1
      have hlw : (ws.map V.str).length = i := by rw [List.length_map]; exact hl
      walk_at "gb"
      refine ⟨ws ++ [w], _, rfl, P3.ed Ed.put (by simp [pa.symm]) (by simp [pg.symm]) (by simp [ps.symm]), (fun b o n1 n2 h => by rw [upd_ne n1]; exact e3.get n2 (kp b o n1 n2 h)), (fun b h => Ed.put.2 b (e3.2 b (lv b h))), by rw [upd_same, List.map_append]; rfl, by rw [List.length_append, hl]; rfl, ?_, ?_⟩
      · intro x hx
        rcases List.mem_append.mp hx with hx | hx
        · exact hw x hx
        · have : x = w := by simpa using hx
          rw [this]; exact w3
      · rw [List.nodup_append]
        refine ⟨hnd, by simp, fun x hx y hy z => ?_⟩
        have : y = w := by simpa using hy
        rw [this] at z
        exact n3 (by rw [← z]; exact hx)
    · rintro σ H1 ⟨ws, v, rfl, P1, kp, lv, hp1, hl, hw, hnd⟩
      walk_at "gb"
      exact k p ws H1 hp ⟨fun b o n h => kp b o (ne_of_none h hp) n h, lv⟩ P1 hp1 (by simpa using hl) hw hnd
end
section
variable {P : Program} {w : World} {K : PySem.W.Frag} {mg : Str → Option Value} {base : Heap}
theorem ok_law_pool {f : Addr} {fd : FuncData} (F : FnP K "_law_pool" "_law_pool" s_law_pool f fd) (T : Txt K mg)   : FnOk P w K mg base (L2.CX P w) 1 f fd ["_law_script"] (sp_law_pool K) := by
  refine F.ok sc_law_pool (fun vs H Q E h => ?_) (fun cdv A outer s H vs Q E hr h => ?_)
  · obtain ⟨t, ns, rfl, _⟩ := h
    rfl
  · have nd := sc_law_pool.nd
    have tk := takes_of (E := E) (X := (cxOf (L2.CX P w) P w K mg base ["_law_script", "_law_greats", "_law_cell", "_law_smalls"] "_law_pool" (defScope s_law_pool) f cdv A outer s H E)) rfl rfl rfl rfl
    have po : PassesOwn (model P w) (cxOf (L2.CX P w) P w K mg base ["_law_script", "_law_greats", "_law_cell", "_law_smalls"] "_law_pool" (defScope s_law_pool) f cdv A outer s H E).A (cxOf (L2.CX P w) P w K mg base ["_law_script", "_law_greats", "_law_cell", "_law_smalls"] "_law_pool" (defScope s_law_pool) f cdv A outer s H E).env (cxOf (L2.CX P w) P w K mg base ["_law_script", "_law_greats", "_law_cell", "_law_smalls"] "_law_pool" (defScope s_law_pool) f cdv A outer s H E).xe := passes_of (X := (cxOf (L2.CX P w) P w K mg base ["_law_script", "_law_greats", "_law_cell", "_law_smalls"] "_law_pool" (defScope s_law_pool) f cdv A outer s H E)) rfl
    obtain ⟨t, ns, rfl, hS, hz, k⟩ := h
    refine ⟨_, (pss_cons (ps_setLc (i := 1) (own := [("_law_cell", 2)]) rfl nd rfl rfl (sw_true rfl rfl rfl (by decide +kernel)) (q_list K (pe_slice (sl_dyn K) (pv 0) po_none (po_some pe_int))) (blkOk_by (own := [("_law_cell", 2)]) (N := ["_law_script", "_law_greats", "_law_cell", "_law_smalls"]) (sc := defScope s_law_pool) (by decide +kernel)) (fun _ _ _ _ _ => (q_name 2 nd)) (fun _ _ _ _ _ => (pts_one (pt_cmpR op_dGe (pv 2) (pe_op op_dPow pe_int pe_int) (nomark _)))) (fun _ _ _ _ _ => (pv 2))) (pss_cons (ps_setLc (i := 3) (own := [("_law_cell", 2)]) rfl nd rfl rfl (sw_true rfl rfl rfl (by decide +kernel)) (q_list K (pe_slice (sl_dyn K) (pv 0) po_none (po_some pe_int))) (blkOk_by (own := [("_law_cell", 2)]) (N := ["_law_script", "_law_greats", "_law_cell", "_law_smalls"]) (sc := defScope s_law_pool) (by decide +kernel)) (fun _ _ _ _ _ => (q_name 2 nd)) (fun _ _ _ _ _ => (pts_one (pt_cmpR op_dLt (pv 2) (pe_op op_dPow pe_int pe_int) (nomark _)))) (fun _ _ _ _ _ => (pe_op op_dMod (pe_callTy cl_int (by rfl) T.n_int bt_int (pa_cons (pv 2) pa_nil)) pe_int))) (pss_one (ps_ret (pe_lst (pa_cons (pv 1) (pa_cons (pv 3) (pa_cons pe_int (pa_cons pe_int pa_nil))))))))), ?_⟩
    refine g_start (σ' := some _ :: none :: none :: none :: []) rfl ?_
    walk_at "gb"
    have hcut : cutV (ns.map V.int) none (some 63) = ns.map V.int := by
      have h63 : (63 : Int) = ((63 : Nat) : Int) := rfl
      unfold cutV
      rw [h63, HT.sIx_nat, HT.sIx_none, List.drop_zero, Nat.sub_zero]
      exact List.take_of_length_le (by rw [List.length_map]; omega)
    have seqs : ∀ {H1 : Hp} {l : Addr}, H1 l = some (.lst (ns.map V.int)) → ∀ i (x : V) (H' : Hp), YAt (ns.map V.int) i H1 x H' → ∃ n : Int, x = .int n := fun {H1 l} hl i x H' h => by
      obtain ⟨_, hx⟩ := h
      rw [List.getElem?_map] at hx
      cases hn : ns[i]? with
      | none => rw [hn] at hx; cases hx
      | some n => rw [hn] at hx; cases hx; exact ⟨n, rfl⟩
    intro l hl
    rw [hcut]
    have e1 : Ed [] H (upd H l (.lst (ns.map V.int))) := Ed.new hl
    have hl1 : (upd H l (.lst (ns.map V.int))) l = some (.lst (ns.map V.int)) := upd_same
    generalize upd H l (.lst (ns.map V.int)) = H1 at e1 hl1
    refine g_iL1 (SqL.of hl1) ?_
    intro D hD
    refine lc_by (walk_list (xs := ns.map V.int)) (fun i H' => ∃ gs : List Int, H' = upd H1 D (.lst (gs.map V.int)) ∧ gs.length ≤ i) ⟨[], rfl, Nat.le_refl _⟩ (fun i H' hi hh => by obtain ⟨gs, rfl, _⟩ := hh; exact SqL.of (by rw [upd_ne (ne_of_none hl1 hD)]; exact hl1)) (fun i x H' H2 hi hh hy => ?_) (fun H' hh => ?_)
    · obtain ⟨gs, rfl, hg⟩ := hh
      rw [List.length_map] at hi
      obtain ⟨n, rfl⟩ : ∃ n : Int, x = .int n := by
        obtain ⟨_, hx⟩ := hy
        rw [List.getElem?_map] at hx
        cases hn : ns[i]? with
        | none => rw [hn] at hx; cases hx
        | some n => rw [hn] at hx; cases hx; exact ⟨n, rfl⟩
      obtain ⟨rfl, _⟩ := hy
      simp only [wipe_cons, wipe_nil, List.map_cons, List.map_nil, List.set_cons_succ, List.set_cons_zero]
      walk_at "gb"
      refine ⟨by first | rfl | walk_at "wipe", ?_⟩
      walk_at "gb"
      refine g_iteD (fun _ => ?_) (fun _ => ?_)
      · walk_at "gb"
        exact ⟨_, upd_same, by rw [List.length_map, sizeLine_eq]; omega, gs ++ [n], by rw [upd_upd, List.map_append]; rfl, by rw [List.length_append]; simp; omega⟩
      · exact ⟨gs, rfl, by omega⟩
    obtain ⟨gs, rfl, hg⟩ := hh
    rw [List.length_map] at hg
    have e2 : Ed [] H (upd H1 D (.lst (gs.map V.int))) := e1.tr (Ed.new hD) no0
    have hD2 : (upd H1 D (.lst (gs.map V.int))) D = some (.lst (gs.map V.int)) := upd_same
    have hD0 : H D = none := e1.free hD
    generalize upd H1 D (.lst (gs.map V.int)) = H2 at e2 hD2
    have hS2 := sqL_same hS e2.same'
    walk_at "gb"
    intro l2 hl2
    rw [hcut]
    have e3 : Ed [] H2 (upd H2 l2 (.lst (ns.map V.int))) := Ed.new hl2
    have hl3 : (upd H2 l2 (.lst (ns.map V.int))) l2 = some (.lst (ns.map V.int)) := upd_same
    generalize upd H2 l2 (.lst (ns.map V.int)) = H3 at e3 hl3
    have hD3 := e3.get List.not_mem_nil hD2
    refine g_iL1 (SqL.of hl3) ?_
    intro F2 hF
    refine lc_by (walk_list (xs := ns.map V.int)) (fun i H' => ∃ gs : List Int, H' = upd H3 F2 (.lst (gs.map V.int)) ∧ gs.length ≤ i) ⟨[], rfl, Nat.le_refl _⟩ (fun i H' hi hh => by obtain ⟨gs, rfl, _⟩ := hh; exact SqL.of (by rw [upd_ne (ne_of_none hl3 hF)]; exact hl3)) (fun i x H' H2 hi hh hy => ?_) (fun H' hh => ?_)
    · obtain ⟨gs, rfl, hg⟩ := hh
      rw [List.length_map] at hi
      obtain ⟨n, rfl⟩ : ∃ n : Int, x = .int n := by
        obtain ⟨_, hx⟩ := hy
        rw [List.getElem?_map] at hx
        cases hn : ns[i]? with
        | none => rw [hn] at hx; cases hx
        | some n => rw [hn] at hx; cases hx; exact ⟨n, rfl⟩
      obtain ⟨rfl, _⟩ := hy
      simp only [wipe_cons, wipe_nil, List.map_cons, List.map_nil, List.set_cons_succ, List.set_cons_zero]
      walk_at "gb"
      refine ⟨by first | rfl | walk_at "wipe", ?_⟩
      walk_at "gb"
      refine g_iteD (fun _ => ?_) (fun _ => ?_)
      · walk_at "gb"
        exact ⟨_, upd_same, by rw [List.length_map, sizeLine_eq]; omega, gs ++ [n % 999999937], by rw [upd_upd, List.map_append]; rfl, by rw [List.length_append]; simp; omega⟩
      · exact ⟨gs, rfl, by omega⟩
    obtain ⟨ss, rfl, hs⟩ := hh
    rw [List.length_map] at hs
    have e4 : Ed [] H3 (upd H3 F2 (.lst (ss.map V.int))) := Ed.new hF
    have hF4 : (upd H3 F2 (.lst (ss.map V.int))) F2 = some (.lst (ss.map V.int)) := upd_same
    have hF0 : H F2 = none := e2.free (e3.free hF)
    generalize upd H3 F2 (.lst (ss.map V.int)) = H4 at e4 hF4
    have hD4 := e4.get List.not_mem_nil hD3
    have nDF : D ≠ F2 := ne_of_none hD3 hF
    walk_at "gb"
    refine ⟨Nat.le_of_ble_eq_true rfl, fun p hp => ?_⟩
    walk_at "gb"
    have e14 : Ed [] H H4 := (e2.tr e3 no0).tr e4 no0
    refine k p D F2 _ (e14.free hp) hD0 hF0 (e14.tr (Ed.new hp) no0) ⟨gs, ss, 1, 0, ⟨upd_same, by rw [upd_ne (ne_of_none hD4 hp)]; exact hD4, by rw [upd_ne (ne_of_none hF4 hp)]; exact hF4, (ne_of_none hD4 hp).symm, (ne_of_none hF4 hp).symm, nDF⟩, by decide, by omega, by omega⟩
end
section
variable {P : Program} {w : World} {K : PySem.W.Frag} {mg : Str → Option Value} {base : Heap}
theorem ok_law_broker {f : Addr} {fd : FuncData} (F : FnP K "_law_broker" "_law_broker" s_law_broker f fd) (T : Txt K mg) (S_Broker : MkS P w K mg base 3 "Broker" (He.ga K "Broker") ["put_off"] (spM (sp_Broker___init__ K)))  : FnOk P w K mg base (L2.CX P w) 5 f fd ["_law_names", "_law_late"] (sp_law_broker K) := by
  refine F.ok sc_law_broker (fun vs H Q E h => ?_) (fun cdv A outer s H vs Q E hr h => ?_)
  · obtain ⟨l, m, ns, lt, rfl, _⟩ := h
    rfl
  · have nd := sc_law_broker.nd
    have tk := takes_of (E := E) (X := (cxOf (L2.CX P w) P w K mg base ["_law_names", "_law_late"] "_law_broker" (defScope s_law_broker) f cdv A outer s H E)) rfl rfl rfl rfl
    have po : PassesOwn (model P w) (cxOf (L2.CX P w) P w K mg base ["_law_names", "_law_late"] "_law_broker" (defScope s_law_broker) f cdv A outer s H E).A (cxOf (L2.CX P w) P w K mg base ["_law_names", "_law_late"] "_law_broker" (defScope s_law_broker) f cdv A outer s H E).env (cxOf (L2.CX P w) P w K mg base ["_law_names", "_law_late"] "_law_broker" (defScope s_law_broker) f cdv A outer s H E).xe := passes_of (X := (cxOf (L2.CX P w) P w K mg base ["_law_names", "_law_late"] "_law_broker" (defScope s_law_broker) f cdv A outer s H E)) rfl
    obtain ⟨l, m, ns, lt, rfl, hl, hm, h1, h3, hsub, hnd, k⟩ := h
    refine ⟨_, (pss_cons (ps_if (pt_cmpR (op_dEq K hr.units) (pe_callB (cl_len K) (by rfl) T.n_len bt_len (pa_cons (pv 0) pa_nil)) pe_int (nomark _)) (pss_one (ps_ret (q_makeM0 S_Broker tk (hr.mono (by decide)) (pk_cons (pv 1) pk_nil)))) pss_nil) (pss_cons (ps_if (pt_cmpR (op_dEq K hr.units) (pe_callB (cl_len K) (by rfl) T.n_len bt_len (pa_cons (pv 0) pa_nil)) pe_int (nomark _)) (pss_one (ps_ret (q_makeM S_Broker tk (hr.mono (by decide)) (pa_cons (pe_ix (ix_dyn K) (pv 0) pe_int (fun _ _ => rfl)) pa_nil) (pk_cons (pv 1) pk_nil)))) pss_nil) (pss_cons (ps_if (pt_cmpR (op_dEq K hr.units) (pe_callB (cl_len K) (by rfl) T.n_len bt_len (pa_cons (pv 0) pa_nil)) pe_int (nomark _)) (pss_one (ps_ret (q_makeM S_Broker tk (hr.mono (by decide)) (pa_cons (pe_ix (ix_dyn K) (pv 0) pe_int (fun _ _ => rfl)) (pa_cons (pe_ix (ix_dyn K) (pv 0) pe_int (fun _ _ => rfl)) pa_nil)) (pk_cons (pv 1) pk_nil)))) pss_nil) (pss_one (ps_ret (q_makeM S_Broker tk (hr.mono (by decide)) (pa_cons (pe_ix (ix_dyn K) (pv 0) pe_int (fun _ _ => rfl)) (pa_cons (pe_ix (ix_dyn K) (pv 0) pe_int (fun _ _ => rfl)) (pa_cons (pe_ix (ix_dyn K) (pv 0) pe_int (fun _ _ => rfl)) pa_nil))) (pk_cons (pv 1) pk_nil))))))), ?_⟩
    refine g_start (σ' := some _ :: some _ :: []) rfl ?_
    walk_at "gb"
    have fin : ∀ (E' : XK) (x dx : Addr), H x = none → H dx = none → dx ≠ x → spM (sp_Broker___init__ K) (.ref x :: ns.map V.str) [.ref m] (upd (upd H dx (.own x)) x (.ins (He.ga K "Broker") dx [])) (fun v H3 => v = .non ∧ Q (.ref x) H3) E' := fun E' x dx hx hdx hne => by
      refine ⟨by rw [List.length_map, sizeLine_eq]; omega, fun p hp => ?_⟩
      generalize hZ : upd (upd H dx _) x _ = H2 at hp
      obtain ⟨e2, hx2⟩ := Ed.new2 hZ hx hdx hne
      have hxp : x ≠ p := ne_of_none hx2 hp
      have e3 : Ed [] H (upd H2 p (.tup (ns.map V.str))) := e2.tr (Ed.new hp) no0
      refine ⟨x, dx, m, p, ns, lt, rfl, by rw [upd_ne hxp]; exact hx2, e3.get List.not_mem_nil hm, upd_same, hsub, hnd, by omega, fun H' S e4 B q1 q2 q3 q4 q5 q6 => ⟨rfl, ?_⟩⟩
      refine k x H' S hx ⟨fun b o _ h => e4.get (fun z => ne_of_none h hx (List.mem_singleton.mp z)) (e3.get List.not_mem_nil h), fun b h => e4.2 b (e3.2 b h)⟩ B q1 (fun d hd => (q2 d hd).2) q3 q4 q5 (e3.free q6)
    rcases ns with _ | ⟨x1, _ | ⟨x2, _ | ⟨x3, _ | _⟩⟩⟩
    · simp at h1
    · refine iteF' (by simp) ?_
      walk_at "gb"
      refine iteT' (by simp) ?_
      walk_at "gb"
      exact ⟨rfl, fin _⟩
    · refine iteF' (by simp) ?_
      walk_at "gb"
      refine iteF' (by simp) ?_
      walk_at "gb"
      refine iteT' (by simp) ?_
      walk_at "gb"
      exact ⟨rfl, fin _⟩
    · refine iteF' (by simp) ?_
      walk_at "gb"
      refine iteF' (by simp) ?_
      walk_at "gb"
      refine iteF' (by simp) ?_
      walk_at "gb"
      exact ⟨rfl, fin _⟩
    · simp at h3
end
section
variable {P : Program} {w : World} {K : PySem.W.Frag} {mg : Str → Option Value} {base : Heap}
theorem ok_law_alike {f : Addr} {fd : FuncData} (F : FnP K "_law_alike" "_law_alike" s_law_alike f fd) (T : Txt K mg)   : FnOkG P w K mg base (L2.CX P w) 1 f fd ["_law_log", "_law_due"] (sp_law_alike K) := by
  refine NL.FunD.okG F sc_law_alike (fun vs H Q E h => ?_) (fun cdv A outer s H vs Q E hG0 hr h => ?_)
  · obtain ⟨W, p, q, ds, es, rfl, _⟩ := h
    rfl
  · have hG : (cxOf (L2.CX P w) P w K mg base ["_law_log", "_law_due"] "_law_alike" (defScope s_law_alike) f cdv A outer s H E).A.guards = some [] := hG0
    have nd := sc_law_alike.nd
    have tk := takes_of (E := E) (X := (cxOf (L2.CX P w) P w K mg base ["_law_log", "_law_due"] "_law_alike" (defScope s_law_alike) f cdv A outer s H E)) rfl rfl rfl rfl
    have po : PassesOwn (model P w) (cxOf (L2.CX P w) P w K mg base ["_law_log", "_law_due"] "_law_alike" (defScope s_law_alike) f cdv A outer s H E).A (cxOf (L2.CX P w) P w K mg base ["_law_log", "_law_due"] "_law_alike" (defScope s_law_alike) f cdv A outer s H E).env (cxOf (L2.CX P w) P w K mg base ["_law_log", "_law_due"] "_law_alike" (defScope s_law_alike) f cdv A outer s H E).xe := passes_of (X := (cxOf (L2.CX P w) P w K mg base ["_law_log", "_law_due"] "_law_alike" (defScope s_law_alike) f cdv A outer s H E)) rfl
    obtain ⟨W, p, q, ds, es, rfl, hp, hq, rfl, h1, h2, h3, h4, h5, k⟩ := h
    refine ⟨_, (pss_one (ps_ret (q_andT K (pe_cmpR (op_dEq K hr.units) (pe_callB (cl_len K) (by rfl) T.n_len bt_len (pa_cons (pv 0) pa_nil)) (pe_callB (cl_len K) (by rfl) T.n_len bt_len (pa_cons (pv 1) pa_nil)) (nomark _)) (pe_one (pe_cmpR (op_dEq K hr.units) (pe_callB (cl_reprA K hG hr.units) (by rfl) T.n_repr bt_repr (pa_cons (pv 0) pa_nil)) (pe_callB (cl_reprA K hG hr.units) (by rfl) T.n_repr bt_repr (pa_cons (pv 1) pa_nil)) (nomark _)))))), ?_⟩
    refine g_start (σ' := some _ :: some _ :: []) rfl ?_
    walk_at "gb"
    refine g_repr hp h1 h2 h3 h4 h5 ?_
    walk_at "gb"
    refine g_repr hq h1 h2 h3 h4 h5 ?_
    walk_at "gb"
    rw [decide_eq_true rfl]
    exact k
end
section
variable {P : Program} {w : World} {K : PySem.W.Frag} {mg : Str → Option Value} {base : Heap}
theorem ok_law_shown {f : Addr} {fd : FuncData} (F : FnP K "_law_shown" "_law_shown" s_law_shown f fd) (T : Txt K mg) (W_Broker_waiting : GnC P w K mg base 4 (He.ga K "Broker") "waiting" ["self"] (sp_Broker_waiting K)) (N_Broker___contains__ : MtC P w K mg base 4 (He.ga K "Broker") "__contains__" ["self", "name"] (sp_Broker___contains__ K)) (N_Broker___len__ : MtC P w K mg base 3 (He.ga K "Broker") "__len__" ["self"] (sp_Broker___len__ K)) (P_Broker_is_idle : PrC P w K mg base 1 (He.ga K "Broker") "is_idle" ["self"] (sp_Broker_is_idle K))  : FnOk P w K mg base (L2.CX P w) 8 f fd ["_law_broker_here", "_law_names", "_law_opened"] (sp_law_shown K) := by
  refine F.ok sc_law_shown (fun vs H Q E h => ?_) (fun cdv A outer s H vs Q E hr h => ?_)
  · obtain ⟨b, n, o, S, os, rfl, _⟩ := h
    rfl
  · have nd := sc_law_shown.nd
    have tk := takes_of (E := E) (X := (cxOf (L2.CX P w) P w K mg base ["_law_broker_here", "_law_names", "_law_opened", "_law_k", "_law_many"] "_law_shown" (defScope s_law_shown) f cdv A outer s H E)) rfl rfl rfl rfl
    have po : PassesOwn (model P w) (cxOf (L2.CX P w) P w K mg base ["_law_broker_here", "_law_names", "_law_opened", "_law_k", "_law_many"] "_law_shown" (defScope s_law_shown) f cdv A outer s H E).A (cxOf (L2.CX P w) P w K mg base ["_law_broker_here", "_law_names", "_law_opened", "_law_k", "_law_many"] "_law_shown" (defScope s_law_shown) f cdv A outer s H E).env (cxOf (L2.CX P w) P w K mg base ["_law_broker_here", "_law_names", "_law_opened", "_law_k", "_law_many"] "_law_shown" (defScope s_law_shown) f cdv A outer s H E).xe := passes_of (X := (cxOf (L2.CX P w) P w K mg base ["_law_broker_here", "_law_names", "_law_opened", "_law_k", "_law_many"] "_law_shown" (defScope s_law_shown) f cdv A outer s H E)) rfl
    obtain ⟨b, n, o, S, os, rfl, B, hn, ho, hl, hop, hd, hw, k⟩ := h
    have c_Broker := T.c_Broker
    have a_Broker_names := T.a_Broker_names
    have a_Broker_desks := T.a_Broker_desks
    have a_Broker_entries := T.a_Broker_entries
    have a_Broker_entries_before := T.a_Broker_entries_before
    have a_Broker_made := T.a_Broker_made
    have a_Broker_depth := T.a_Broker_depth
    have hz1 : (S.ns.map V.str).length ≤ 1000 := by rw [List.length_map]; exact B.nz
    refine ⟨_, (pss_cons (ps_for po rfl (pi_range1 rfl T.n_range (pa_cons (pe_callB (cl_len K) (by rfl) T.n_len bt_len (pa_cons (pv 1) pa_nil)) pa_nil)) (q_name 3 nd) (pss_one (ps_if (pt_cmpR (op_dNe K hr.units) (q_inO N_Broker___contains__ tk (hr.mono (by decide)) (pe_ix (ix_dyn K) (pv 1) (pv 3) (fun _ _ => rfl)) (pv 0)) (pe_cmpR op_dGe (pe_ix (ix_dyn K) (pv 2) (pv 3) (fun _ _ => rfl)) pe_int (nomark _)) (nomark _)) (pss_one (ps_ret pe_bl)) pss_nil))) (pss_cons (q_set 4 nd (pe_callB (cl_len K) (by rfl) T.n_len bt_len (pa_cons (pe_lc (own := [("_law_k", 3)]) rfl nd (pi_range1 rfl T.n_range (pa_cons (pe_callB (cl_len K) (by rfl) T.n_len bt_len (pa_cons (pv 1) pa_nil)) pa_nil)) (blkOk_by (own := [("_law_k", 3)]) (N := ["_law_broker_here", "_law_names", "_law_opened", "_law_k", "_law_many"]) (sc := defScope s_law_shown) (by decide +kernel)) (fun _ _ _ _ _ => (q_name 3 nd)) (fun _ _ _ _ _ => (pts_one (pt_cmpR op_dGe (pe_ix (ix_dyn K) (pv 2) (pv 3) (fun _ _ => rfl)) pe_int (nomark _)))) (fun _ _ _ _ _ => (pv 3))) pa_nil))) (pss_one (ps_ret (q_andT K (pe_cmpR (op_dEq K hr.units) (q_lenO N_Broker___len__ tk (hr.mono (by decide)) (pv 0) T.n_len) (pv 4) (nomark _)) (q_andT K (pe_cmpR op_dIsB (q_prop P_Broker_is_idle (hr.mono (by decide)) (pv 0)) pe_bl (nomark _)) (pe_one (pe_cmpR (op_dEq K hr.units) (q_listG W_Broker_waiting (hr.mono (by decide)) (pv 0) T.n_list) (pe_lst pa_nil) (nomark _))))))))), ?_⟩
    refine g_start (σ' := some _ :: some _ :: some _ :: none :: none :: []) rfl ?_
    walk_at "gb"
    have at1 : ∀ i : Nat, i < S.ns.length → ∃ nm z, S.ns[i]? = some nm ∧ os[i]? = some z ∧ atI (S.ns.map V.str) (0 + (i : Int)) = some (.str nm) ∧ atI (os.map V.int) (0 + (i : Int)) = some (.int z) := fun i hi => by
      have h1 := List.getElem?_eq_getElem hi
      have h2 := List.getElem?_eq_getElem (show i < os.length by omega)
      refine ⟨_, _, h1, h2, ?_, ?_⟩
      · rw [Int.zero_add]; exact atI_of (by rw [List.getElem?_map, h1]; rfl)
      · rw [Int.zero_add]; exact atI_of (by rw [List.getElem?_map, h2]; rfl)
    refine lp_it walk_range (fun i σ' H' => Ed [] H H' ∧ ∃ v : Option V, σ' = [some (.ref b), some (.ref n), some (.ref o), v, none]) ⟨Ed.refl, _, rfl⟩ (fun _ _ _ _ _ => trivial) ?_ ?_
    · rintro i x σ' H1 H2 hi ⟨e1, v, rfl⟩ ⟨rfl, rfl⟩
      rw [Int.toNat_natCast, List.length_map] at hi
      obtain ⟨nm, z, h1, h2, h3, h4⟩ := at1 i hi
      have hn1 := e1.get List.not_mem_nil hn
      have B1 := B.ed0 e1
      have hb1 := B1.hb
      walk_at "gb"
      refine ⟨b, S, nm, rfl, B1, fun H3 e3 => ⟨_, rfl, ?_⟩⟩
      have ho3 := e3.get List.not_mem_nil (e1.get List.not_mem_nil ho)
      walk_at "gb"
      refine iteF' (by rw [hop i nm z h1 h2]; simp) ?_
      walk_at "gb"
      exact ⟨e1.tr e3 no0, _, rfl⟩
    · rintro σ' H1 ⟨e1, v, rfl⟩
      have hn1 := e1.get List.not_mem_nil hn
      have ho1 := e1.get List.not_mem_nil ho
      walk_at "gb"
      intro D hD
      refine lc_by walk_range (fun i H' => ∃ xs : List V, H' = upd H1 D (.lst xs) ∧ xs.length = ((S.ns.take i).filter S.has).length) ⟨[], rfl, rfl⟩ (fun _ _ _ _ => trivial) ?_ ?_
      · rintro i x H2 H3 hi ⟨xs, rfl, hx⟩ ⟨rfl, rfl⟩
        rw [Int.toNat_natCast, List.length_map] at hi
        obtain ⟨nm, z, h1, h2, h3, h4⟩ := at1 i hi
        have ho2 : (upd H1 D (.lst xs)) o = some (.lst (os.map V.int)) := by rw [upd_ne (ne_of_none ho1 hD)]; exact ho1
        have hlen : xs.length ≤ 1000 := by
          rw [hx]
          have q1 := List.length_filter_le S.has (S.ns.take i)
          rw [List.length_take] at q1
          have := B.nz
          omega
        have htk : S.ns.take (i + 1) = S.ns.take i ++ [nm] := by rw [List.take_succ, h1]; rfl
        have hh := hop i nm z h1 h2
        simp only [wipe_cons, wipe_nil, List.map_cons, List.map_nil, List.set_cons_succ, List.set_cons_zero]
        walk_at "gb"
        refine ⟨by first | rfl | walk_at "wipe", ?_⟩
        walk_at "gb"
        refine g_iteD (fun hc => ?_) (fun hc => ?_)
        · walk_at "gb"
          refine ⟨_, upd_same, by rw [sizeLine_eq]; omega, _, by rw [upd_upd], ?_⟩
          rw [htk, List.filter_append, List.length_append, List.length_append, hx]
          have : [nm].filter S.has = [nm] := by simp [List.filter_cons, hh, hc]
          rw [this]; rfl
        · refine ⟨xs, rfl, ?_⟩
          rw [htk, List.filter_append]
          have : [nm].filter S.has = [] := by simp [List.filter_cons, hh, hc]
          rw [this, List.append_nil]; exact hx
      · rintro H2 ⟨xs, rfl, hx⟩
        rw [Int.toNat_natCast, List.length_map, List.take_length, ← es_count B] at hx
        have e2 : Ed [] H (upd H1 D (.lst xs)) := e1.tr (Ed.new hD) no0
        have hD2 : (upd H1 D (.lst xs)) D = some (.lst xs) := upd_same
        generalize upd H1 D (.lst xs) = H2 at e2 hD2
        have B2 := B.ed0 e2
        have hb2 := B2.hb
        have hel := B.es_len
        walk_at "gb"
        refine ⟨b, S, rfl, B2, fun H3 e3 => ⟨S.es.length, rfl, by omega, ?_⟩⟩
        have B3 := B2.ed0 e3
        have hb3 := B3.hb
        walk_at "gb"
        refine iteT' (by rw [hx]; simp) ?_
        walk_at "gb"
        refine ⟨b, S, rfl, hb3, ?_⟩
        walk_at "gb"
        refine iteT' (by rw [hd]; rfl) ?_
        walk_at "gb"
        refine ⟨b, S, rfl, B3, hw, fun H4 e4 p hp => ?_⟩
        walk_at "gb"
        refine ⟨Nat.zero_le _, fun q hq => ?_⟩
        have hpq : p ≠ q := fun z => by rw [← z, upd_same] at hq; cases hq
        refine g_eqd (W := []) (W' := []) (d := .list []) (e := .list []) (.lst List.not_mem_nil (by rw [upd_ne hpq, upd_same]) .nil) (.lst List.not_mem_nil upd_same .nil) ((Sd.list (n := 0) Sd.nil).sh (by decide)) ((Sd.list (n := 0) Sd.nil).sh (by decide)) ?_
        exact k _ ((((e2.tr e3 no0).tr e4 no0).tr (Ed.new hp) no0).tr (Ed.new hq) no0)
end
section
variable {P : Program} {w : World} {K : PySem.W.Frag} {mg : Str → Option Value} {base : Heap}
theorem ok_law_source {f : Addr} {fd : FuncData} (F : FnP K "_law_source" "_law_source" s_law_source f fd) (TB : LamX.TabB base mg (He.cT K ("_law_source", none)).1 (He.cT K ("_law_source", none)).2) (hc0 : ∀ c, CodeIs K f c → c = (He.cT K ("_law_source", none)).1) (hne : (He.cT K ("_law_source", none)).2 ≠ (He.cT K ("_law_call", none)).2) : FnOk P w K mg base (L2.CX P w) 1 f fd ["_law_broker_here", "_law_name", "_law_log", "_law_held"] (sp_law_source K) := by
  have es : sp_law_source K = sMk (TT K) 4 [0, 3, 2, 1] ["_law_broker_here", "_law_held", "_law_log", "_law_name"] fun cl c => ⟨"_law_keep", "_law_source" ++ ".<locals>." ++ "_law_keep", C8.fnArgs s_law_source__law_keep, .stmts (C8.fnBody s_law_source__law_keep), C8.fnScope s_law_source__law_keep, cl, c⟩ := by kernel_rfl
  rw [es]
  refine FunD.okMkDef (i := 4) (T := TT K) F rfl rfl sc_law_source rfl (.inl rfl) (by decide) rfl (by decide +kernel) rfl rfl (fun _ => rfl) TB hc0 (nm := fun _ _ => "_law_source.<locals>._law_keep") (by simp [TT]) (by kernel_rfl) (fun p hp e => ?_)
  simp only [TT, List.mem_cons, List.not_mem_nil, or_false] at hp
  rcases hp with rfl | rfl
  · first | rfl | exact absurd e hne
  · first | rfl | exact absurd e.symm hne
end
section
variable {P : Program} {w : World} {K : PySem.W.Frag} {mg : Str → Option Value} {base : Heap}
theorem ok_law_call {f : Addr} {fd : FuncData} (F : FnP K "_law_call" "_law_call" s_law_call f fd) (TB : LamX.TabB base mg (He.cT K ("_law_call", none)).1 (He.cT K ("_law_call", none)).2) (hc0 : ∀ c, CodeIs K f c → c = (He.cT K ("_law_call", none)).1) (hne : (He.cT K ("_law_source", none)).2 ≠ (He.cT K ("_law_call", none)).2) : FnOk P w K mg base (L2.CX P w) 1 f fd ["_law_broker_here", "_law_name", "_law_log", "_law_mark"] (sp_law_call K) := by
  have es : sp_law_call K = sMk (TT K) 4 [0, 2, 3, 1] ["_law_broker_here", "_law_log", "_law_mark", "_law_name"] fun cl c => ⟨"_law_told", "_law_call" ++ ".<locals>." ++ "_law_told", C8.fnArgs s_law_call__law_told, .stmts (C8.fnBody s_law_call__law_told), C8.fnScope s_law_call__law_told, cl, c⟩ := by kernel_rfl
  rw [es]
  refine FunD.okMkDef (i := 4) (T := TT K) F rfl rfl sc_law_call rfl (.inl rfl) (by decide) rfl (by decide +kernel) rfl rfl (fun _ => rfl) TB hc0 (nm := fun _ _ => "_law_call.<locals>._law_told") (by simp [TT]) (by kernel_rfl) (fun p hp e => ?_)
  simp only [TT, List.mem_cons, List.not_mem_nil, or_false] at hp
  rcases hp with rfl | rfl
  · first | rfl | exact absurd e hne
  · first | rfl | exact absurd e.symm hne
end
section
variable {P : Program} {w : World} {K : PySem.W.Frag} {mg : Str → Option Value} {base : Heap}
theorem ok_law_ask_deed {f : Addr} {fd : FuncData} (F : FnP K "_law_ask_deed" "_law_ask_deed" s_law_ask_deed f fd) (T : Txt K mg) (C_law_call : Cal P w K mg base 1 "_law_call" ["_law_broker_here", "_law_name", "_law_log", "_law_mark"] (sp_law_call K)) (C_law_draw : Cal P w K mg base 1 "_law_draw" ["_law_pool_here", "_law_many"] (sp_law_draw K)) (C_law_value : Cal P w K mg base 2 "_law_value" ["_law_pool_here"] (sp_law_value K)) (D_Broker_ask : MtD P w K mg base 8 (He.ga K "Broker") "ask" ["self", "name", "sent", "call", "replace"] [V.bl false] (sp_Broker_ask K)) (G_Broker_ask : MtG P w K mg base 8 (He.ga K "Broker") "ask" ["self", "name", "sent", "call", "replace"] 4 ["replace"] (sp_Broker_ask K))  : FnOk P w K mg base (L2.CX P w) 9 f fd ["_law_pool_here", "_law_world"] (sp_law_ask_deed K) := by
  refine F.ok sc_law_ask_deed (fun vs H Q E h => ?_) (fun cdv A outer s H vs Q E hr h => ?_)
  · obtain ⟨c, D, k, w, rfl, _⟩ := h
    rfl
  · have nd := sc_law_ask_deed.nd
    have tk := takes_of (E := E) (X := (cxOf (L2.CX P w) P w K mg base ["_law_pool_here", "_law_world", "_law_broker_here", "_law_names", "_law_sourced", "_law_opened", "_law_made", "_law_log", "_law_due", "_law_held", "_law_at", "_law_sent", "_law_again", "_law_mark", "_law_call_here", "_law_handle"] "_law_ask_deed" (defScope s_law_ask_deed) f cdv A outer s H E)) rfl rfl rfl rfl
    have po : PassesOwn (model P w) (cxOf (L2.CX P w) P w K mg base ["_law_pool_here", "_law_world", "_law_broker_here", "_law_names", "_law_sourced", "_law_opened", "_law_made", "_law_log", "_law_due", "_law_held", "_law_at", "_law_sent", "_law_again", "_law_mark", "_law_call_here", "_law_handle"] "_law_ask_deed" (defScope s_law_ask_deed) f cdv A outer s H E).A (cxOf (L2.CX P w) P w K mg base ["_law_pool_here", "_law_world", "_law_broker_here", "_law_names", "_law_sourced", "_law_opened", "_law_made", "_law_log", "_law_due", "_law_held", "_law_at", "_law_sent", "_law_again", "_law_mark", "_law_call_here", "_law_handle"] "_law_ask_deed" (defScope s_law_ask_deed) f cdv A outer s H E).env (cxOf (L2.CX P w) P w K mg base ["_law_pool_here", "_law_world", "_law_broker_here", "_law_names", "_law_sourced", "_law_opened", "_law_made", "_law_log", "_law_due", "_law_held", "_law_at", "_law_sent", "_law_again", "_law_mark", "_law_call_here", "_law_handle"] "_law_ask_deed" (defScope s_law_ask_deed) f cdv A outer s H E).xe := passes_of (X := (cxOf (L2.CX P w) P w K mg base ["_law_pool_here", "_law_world", "_law_broker_here", "_law_names", "_law_sourced", "_law_opened", "_law_made", "_law_log", "_law_due", "_law_held", "_law_at", "_law_sent", "_law_again", "_law_mark", "_law_call_here", "_law_handle"] "_law_ask_deed" (defScope s_law_ask_deed) f cdv A outer s H E)) rfl
    obtain ⟨c, D, k, w, rfl, hw, hk, I, kk⟩ := h
    have c_Broker := T.c_Broker
    have a_Broker_names := T.a_Broker_names
    have a_Broker_desks := T.a_Broker_desks
    have a_Broker_entries := T.a_Broker_entries
    have a_Broker_entries_before := T.a_Broker_entries_before
    have a_Broker_made := T.a_Broker_made
    have a_Broker_depth := T.a_Broker_depth
    refine ⟨_, (pss_cons (ps_asg (pv 1) (q_gtup K 8 (pgs_cons (q_name 2 nd) (pgs_cons (q_name 3 nd) (pgs_cons (q_name 4 nd) (pgs_cons (q_name 5 nd) (pgs_cons (q_name 6 nd) (pgs_cons (q_name 7 nd) (pgs_cons (q_name 8 nd) (pgs_cons (q_name 9 nd) pgs_nil)))))))))) (pss_cons (q_set 10 nd (q_call C_law_draw tk (hr.mono (by decide)) (pa_cons (pv 0) (pa_cons (pe_callB (cl_len K) (by rfl) T.n_len bt_len (pa_cons (pv 3) pa_nil)) pa_nil)))) (pss_cons (q_set 11 nd (q_call C_law_value tk (hr.mono (by decide)) (pa_cons (pv 0) pa_nil))) (pss_cons (q_set 12 nd (pe_cmpR (op_dEq K hr.units) (q_call C_law_draw tk (hr.mono (by decide)) (pa_cons (pv 0) (pa_cons pe_int pa_nil))) pe_int (nomark _))) (pss_cons (q_set 13 nd (pe_callB (cl_len K) (by rfl) T.n_len bt_len (pa_cons (pv 6) pa_nil))) (pss_cons (q_set 14 nd (q_call C_law_call tk (hr.mono (by decide)) (pa_cons (pv 2) (pa_cons (pe_ix (ix_dyn K) (pv 3) (pv 10) (fun _ _ => rfl)) (pa_cons (pv 7) (pa_cons (pv 13) pa_nil)))))) (pss_cut (ps_if (PW.pt (pw_or (q_truth K (pv 12)) (pw_or1 (pt_cmpR (op_dEq K hr.units) (q_call C_law_draw tk (hr.mono (by decide)) (pa_cons (pv 0) (pa_cons pe_int pa_nil))) pe_int (nomark _))))) (pss_one (q_set 15 nd (q_methG G_Broker_ask tk (hr.mono (by decide)) (pv 2) (pa_cons (pe_ix (ix_dyn K) (pv 3) (pv 10) (fun _ _ => rfl)) (pa_cons (pv 11) (pa_cons (pv 14) pa_nil))) (pk_cons (pv 12) pk_nil)))) (pss_one (q_set 15 nd (q_methD D_Broker_ask tk (hr.mono (by decide)) (pv 2) (pa_cons (pe_ix (ix_dyn K) (pv 3) (pv 10) (fun _ _ => rfl)) (pa_cons (pv 11) (pa_cons (pv 14) pa_nil))))))) (pss_cons (ps_if (PW.pt (pw_and (pt_cmpR op_dGe (pe_ix (ix_dyn K) (pv 5) (pv 10) (fun _ _ => rfl)) pe_int (nomark _)) (pw_and1 (pt_not (q_truth K (pv 12)))))) (pss_one (ps_ret (pe_cmpR op_dIs (pv 15) pe_non (nomark _)))) pss_nil) (pss_cons (ps_asg (pv 13) (pg_sub (pv 5) (pv 10) set_list)) (pss_cons (ps_expr (q_bm K PySem.F.plainAttrs_list PySem.F.slot_list_append PySem.F.type_list_append m_append (pv 6) (pa_cons (pe_tup (pa_cons (pv 10) (pa_cons (pv 11) (pa_cons (pe_op op_dSub (pe_callB (cl_len K) (by rfl) T.n_len bt_len (pa_cons (pv 9) pa_nil)) pe_int) pa_nil)))) pa_nil))) (pss_cons (ps_if (q_truth K (pe_ix (ix_dyn K) (pv 4) (pv 10) (fun _ _ => rfl))) (pss_one (ps_expr (q_bm K PySem.F.plainAttrs_list PySem.F.slot_list_append PySem.F.type_list_append m_append (pv 8) (pa_cons (pe_tup (pa_cons pe_str (pa_cons (pe_ix (ix_dyn K) (pv 3) (pv 10) (fun _ _ => rfl)) (pa_cons (pv 11) (pa_cons pe_bl (pa_cons pe_bl pa_nil)))))) pa_nil)))) pss_nil) (pss_one (ps_ret (pe_cmpR op_dIsNot (pv 15) pe_non (nomark _))))))))))))))), ?_⟩
    refine g_start (σ' := some _ :: some _ :: none :: none :: none :: none :: none :: none :: none :: none :: none :: none :: none :: none :: none :: none :: []) rfl ?_
    have hn := I.st.hn
    walk_at "gb"
    have zn : (D.S.ns.map V.str).length = D.S.ds.length := by rw [List.length_map, List.length_map]
    have w1 := I.w1
    have w3 := I.w3
    rw [List.length_map] at w1 w3
    refine call_draw I.P (by rw [zn]; omega) (by rw [zn, Int.natAbs_natCast]; exact log_sm (by omega)) fun d1 H1 p1 p2 e1 P1 => ?_
    rw [zn] at p2
    obtain ⟨i, rfl⟩ := Int.eq_ofNat_of_zero_le p1
    have I1 := I.ag e1 P1
    walk_at "gb"
    refine ⟨c.W, c.a, c.g, c.s, rfl, I1.P, I1.wl, fun sv sd H2 e2 P2 ds2 dv => ?_⟩
    have I2 := I1.ag e2 P2
    walk_at "gb"
    refine call_draw I2.P (by decide) (by decide) fun d3 H3 q1 q2 e3 P3 => ?_
    have I3 := I2.ag e3 P3
    have hma3 := I3.st.hma
    have hn3 := I3.st.hn
    have hi : D.S.ds[i]? = some (D.S.ds[i]'(by omega)) := List.getElem?_eq_getElem (by omega)
    generalize D.S.ds[i]'(by omega) = d at hi
    have hnm : atI (D.S.ns.map V.str) (i : Int) = some (.str d.name) := atI_of (by rw [List.getElem?_map, List.getElem?_map, hi]; rfl)
    have hml : (D.ms.map fun m : Mk => V.ref m.t).length = D.S.rs.length := by rw [List.length_map]; exact I.z3
    walk_at "gb"
    generalize hag : decide (d3 = 0) = ag
    rw [hml]
    refine ⟨rfl, I3.tb, fun f cc cl H4 hf eN ll T4 C nc => ?_⟩
    have C4 : ToldC H4 f c.b c.lg (.int D.S.rs.length) d.name := ⟨cl, cc, C⟩
    have I4 := I3.ext eN ll T4
    have agW : ∀ a ∈ [c.a, c.g], a ∈ c.W := fun a ha => by
      simp only [List.mem_cons, List.not_mem_nil, or_false] at ha
      rcases ha with rfl | rfl <;> simp [Cf.W]
    have ds4 : Df c.W H4 sv sd := (ds2.ed e3 agW).et (Et.ext eN ll) no0
    have et4 : Et c.W H H4 := ((((Ek.ed e1).et.tr (Ek.ed e2).et fun _ z => z).tr (Ek.ed e3).et fun _ z => z).tr (Et.ext eN ll) no0).weak agW
    clear C hf nc cc cl
    walk_at "gb"
    refine g_cut (fun σ' H' => ∃ v, σ' = [some (V.ref c.a), some (V.ref w), some (V.ref c.b), some (V.ref c.n), some (V.ref c.so), some (V.ref c.o), some (V.ref c.ma), some (V.ref c.lg), some (V.ref c.du), some (V.ref c.hl), some (.int i), some sv, some (.bl ag), some (.int D.S.rs.length), some (.ref f), some v] ∧ AskP K H H' c D k i d sv sd f ag v) (fun R hR => ?_) ?_
    · have hn4 := I4.st.hn
      have hb4 := I4.B.hb
      clear hag
      cases ag with
      | true =>
        walk_at "gb"
        exact ⟨rfl, rfl, ask_cut I4 (by omega) hi et4 ds4 C4 fun v H' hp => hR _ _ ⟨v, rfl, hp⟩⟩
      | false =>
        walk_at "gb"
        refine call_draw I4.P (by decide) (by decide) fun d5 H5 r1 r2 e5 P5 => ?_
        have I5 := I4.ag e5 P5
        have hn5 := I5.st.hn
        have hb5 := I5.B.hb
        have et5 := et4.tr (Ek.ed e5).et agW
        have ds5 := ds4.ed e5 agW
        have C5 := C4.et (Ek.ed e5).et fun a ha => I4.lst a (agW a ha)
        walk_at "gb"
        refine g_iteD (fun _ => ?_) (fun _ => ?_)
        · walk_at "gb"
          exact ⟨rfl, rfl, ask_cut I5 (by omega) hi et5 ds5 C5 fun v H' hp => hR _ _ ⟨v, rfl, hp⟩⟩
        · walk_at "gb"
          exact ask_cut I5 (by omega) hi et5 ds5 C5 fun v H' hp => hR _ _ ⟨v, rfl, hp⟩
    · rintro σ' H' ⟨v, rfl, hp⟩
      have iz : i < D.os.length := by rw [I.z2]; omega
      have hz : D.os[i]? = some (D.os[i]'iz) := List.getElem?_eq_getElem iz
      generalize D.os[i]'iz = z at hz
      have hzz : atI (D.os.map V.int) (i : Int) = some (.int z) := atI_of (by rw [List.getElem?_map, hz]; rfl)
      have op := I.opn i d z hi hz
      rcases hp with ⟨hc, rfl, I5, et5⟩ | ⟨hc, ⟨hd, rfl⟩, A⟩
      · have ho5 := I5.st.ho
        walk_at "gb"
        refine iteT' (by
          rcases op with ⟨_, q⟩ | ⟨e, _, q⟩
          · unfold BSt.has at hc; rw [q] at hc; cases hc
          · rw [q]; exact decide_eq_true (by omega)) ?_
        walk_at "gb"
        have hag : ag = false := by cases ag; rfl; simp at hc
        subst hag
        refine iteT' rfl ?_
        walk_at "gb"
        rw [decide_eq_true rfl]
        exact kk _ _ I5.up rfl et5
      · have A0 := A
        obtain ⟨H6, r, tp, wt, en, I6, et6, ds6, C6, x1, x2, x3, x4, e6, B6, s1, s2⟩ := A
        have nd6 := I6.nd
        simp only [Cf.W, List.nodup_cons, List.mem_cons, List.not_mem_nil, or_false, not_or, not_false_iff] at nd6
        obtain ⟨⟨nom, nol, nod, noh, _⟩, ⟨nml, nmd, nmh, _⟩, ⟨nld, nlh, _⟩, ⟨ndh, _⟩, _⟩ := nd6
        have g6 : ∀ {x : Addr} {xs : List V}, x ≠ c.lg → x ≠ c.hl → H6 x = some (.lst xs) → H' x = some (.lst xs) := fun {x xs} n1 n2 h => e6.get (fun z => by
          simp only [List.mem_cons, List.not_mem_nil, or_false] at z
          exact z.elim n1 n2) h
        have ho6 := g6 nol noh I6.st.ho
        have hma6 := g6 nml nmh I6.st.hma
        have hdu6 := g6 (Ne.symm nld) ndh I6.st.hdu
        have hn6 := g6 (fun z => I6.n1 (by rw [z]; simp [Cf.W])) (fun z => I6.n1 (by rw [z]; simp [Cf.W])) I6.st.hn
        have hso6 := g6 (fun z => I6.n2 (by rw [z]; simp [Cf.W])) (fun z => I6.n2 (by rw [z]; simp [Cf.W])) I6.st.hso
        walk_at "gb"
        refine' g_allP (W := True) (R := ?Rx) ?main ?rest
        case main =>
          intro els
          by_cases hzp : ¬ 0 ≤ z
          · refine iteF' (decide_eq_false hzp) ?_
            exact els trivial
          · have hzp : 0 ≤ z := Classical.not_not.mp hzp
            refine iteT' (decide_eq_true hzp) ?_
            walk_at "gb"
            have hag2 : ag = true := by
              rcases op with ⟨q, _⟩ | ⟨e, q, _⟩
              · omega
              · unfold BSt.has at hc; rw [q] at hc; cases ag
                · cases hc
                · rfl
            subst hag2
            try dsimp only
            try refine iteF' (by decide) ?_
            exact els trivial
        case rest =>
          intro _
          walk_at "gb"
          have hix : ixN (D.os.map V.int).length (i : Int) = some i := NQ.ixN_nat (by rw [List.length_map]; exact iz)
          refine g_setL ho6 hix ?_
          have eo : Ed [c.o] H' (upd H' c.o (.lst ((D.os.map V.int).set i (.int D.S.rs.length)))) := Ed.put
          have ho7 : (upd H' c.o (.lst ((D.os.map V.int).set i (.int D.S.rs.length)))) c.o = some (.lst ((D.os.set i (D.ms.length : Nat)).map V.int)) := by
            rw [upd_same, List.map_set, I6.z3]
          generalize upd H' c.o _ = H7 at eo ho7
          have n1 : ∀ {x : Addr} {xs : List V}, x ≠ c.o → H' x = some (.lst xs) → H7 x = some (.lst xs) := fun n h => eo.get (fun z => n (List.mem_singleton.mp z)) h
          have hma7 := n1 (Ne.symm nom) hma6
          have hdu7 := n1 (Ne.symm nod) hdu6
          have hn7 := n1 (fun z => I6.n1 (by rw [z]; simp [Cf.W])) hn6
          have hso7 := n1 (fun z => I6.n2 (by rw [z]; simp [Cf.W])) hso6
          have hss : ∃ bs, D.ss[i]? = some bs := ⟨_, List.getElem?_eq_getElem (by rw [I6.z1]; omega)⟩
          obtain ⟨bs, hbs⟩ := hss
          have hbz : atI (D.ss.map V.bl) (i : Int) = some (.bl bs) := atI_of (by rw [List.getElem?_map, hbs]; rfl)
          obtain ⟨ls, hls, hlz⟩ : ∃ ls : List V, H' c.hl = some (.lst ls) ∧ (bs = true → ls.length = D.hs.length + 1) := by
            cases bs with
            | false => exact ⟨_, (s1 hbs).2, fun z => by cases z⟩
            | true =>
              obtain ⟨t, an, dxa, _, _, _, q, _⟩ := s2 hbs
              exact ⟨_, q, fun _ => by simp⟩
          have hhl7 := n1 (Ne.symm noh) hls
          walk_at "gb"
          refine ⟨Nat.le_of_ble_eq_true rfl, fun p hp => ?_⟩
          walk_at "gb"
          have hma8 : (upd H7 p (.tup [.int i, sv, .int ((ls.length : Nat) - 1)])) c.ma = some (.lst (D.ms.map fun m : Mk => V.ref m.t)) := by rw [upd_ne (ne_of_none hma7 hp)]; exact hma7
          refine g_app hma8 (by have := I6.z5; rw [List.length_map, sizeLine_eq]; omega) ?_
          have e8 : Ed [c.ma] H7 (upd (upd H7 p (.tup [.int i, sv, .int ((ls.length : Nat) - 1)])) c.ma (.lst ((D.ms.map fun m : Mk => V.ref m.t) ++ [.ref p]))) := ((Ed.new hp).weak no0).tr Ed.put fun a z => .inl z
          have hp8 : (upd (upd H7 p (.tup [.int i, sv, .int ((ls.length : Nat) - 1)])) c.ma (.lst ((D.ms.map fun m : Mk => V.ref m.t) ++ [.ref p]))) p = some (.tup [.int i, sv, .int ((ls.length : Nat) - 1)]) := by rw [upd_ne (ne_of_none hma7 hp).symm, upd_same]
          have hma9 : (upd (upd H7 p (.tup [.int i, sv, .int ((ls.length : Nat) - 1)])) c.ma (.lst ((D.ms.map fun m : Mk => V.ref m.t) ++ [.ref p]))) c.ma = some (.lst ((D.ms.map fun m : Mk => V.ref m.t) ++ [.ref p])) := upd_same
          generalize upd (upd H7 p _) c.ma _ = H8 at e8 hp8 hma9
          have n2 : ∀ {x : Addr} {xs : List V}, x ≠ c.ma → H7 x = some (.lst xs) → H8 x = some (.lst xs) := fun n h => e8.get (fun z => n (List.mem_singleton.mp z)) h
          have hdu8 := n2 (Ne.symm nmd) hdu7
          have hn8 := n2 (fun z => I6.n1 (by rw [z]; simp [Cf.W])) hn7
          have hso8 := n2 (fun z => I6.n2 (by rw [z]; simp [Cf.W])) hso7
          have ho8 := n2 nom ho7
          have e68 : Ed [c.o, c.ma, c.du] H' H8 := (eo.weak (fun a z => by rw [List.mem_singleton.mp z]; simp)).tr e8 fun a z => .inl (by rw [List.mem_singleton.mp z]; simp)
          clear hma8
          cases bs with
          | false =>
            walk_at "gb"
            try refine iteF' rfl ?_
            walk_at "gb"
            obtain ⟨D', I9, q1, q2⟩ := asked_next A0 hk hi dv e68 ho8 hp8 hma9 (fun _ => hdu8) (fun z => by rw [hbs] at z; cases z)
            have k9 := kk _ _ I9 q1 q2
            simpa using k9
          | true =>
            walk_at "gb"
            try refine iteT' rfl ?_
            walk_at "gb"
            refine ⟨Nat.le_of_ble_eq_true rfl, fun u hu => ?_⟩
            walk_at "gb"
            have hdu9 : (upd H8 u (.tup [.str "source", .str d.name, sv, .bl true, .bl false])) c.du = some (.lst D.ys) := by rw [upd_ne (ne_of_none hdu8 hu)]; exact hdu8
            refine g_app hdu9 (by have := I6.z4; have := I6.st.dy.length; rw [sizeLine_eq]; omega) ?_
            have e9 : Ed [c.du] H8 (upd (upd H8 u (.tup [.str "source", .str d.name, sv, .bl true, .bl false])) c.du (.lst (D.ys ++ [.ref u]))) := ((Ed.new hu).weak no0).tr Ed.put fun a z => .inl z
            have hu9 : (upd (upd H8 u (.tup [.str "source", .str d.name, sv, .bl true, .bl false])) c.du (.lst (D.ys ++ [.ref u]))) u = some (.tup [.str "source", .str d.name, sv, .bl true, .bl false]) := by rw [upd_ne (ne_of_none hdu8 hu).symm, upd_same]
            have hdu10 : (upd (upd H8 u (.tup [.str "source", .str d.name, sv, .bl true, .bl false])) c.du (.lst (D.ys ++ [.ref u]))) c.du = some (.lst (D.ys ++ [.ref u])) := upd_same
            generalize upd (upd H8 u _) c.du _ = H9 at e9 hu9 hdu10
            have n3 : ∀ {x : Addr} {o : HO}, x ≠ c.du → H8 x = some o → H9 x = some o := fun n h => e9.get (fun z => n (List.mem_singleton.mp z)) h
            walk_at "gb"
            obtain ⟨D', I9, q1, q2⟩ := asked_next A0 hk hi dv (e68.tr e9 fun a z => .inl (by rw [List.mem_singleton.mp z]; simp)) (n3 nod ho8) (n3 (fun z => by rw [z, hdu8] at hp8; cases hp8) hp8) (n3 nmd hma9) (fun z => by rw [hbs] at z; cases z) (fun _ => ⟨by have := hlz rfl; omega, u, e68.free hu, hu9, hdu10⟩)
            have k9 := kk _ _ I9 q1 q2
            simpa using k9
end
section
variable {P : Program} {w : World} {K : PySem.W.Frag} {mg : Str → Option Value} {base : Heap}
theorem ok_law_answer_deed {f : Addr} {fd : FuncData} (F : FnP K "_law_answer_deed" "_law_answer_deed" s_law_answer_deed f fd) (T : Txt K mg) (C_law_draw : Cal P w K mg base 1 "_law_draw" ["_law_pool_here", "_law_many"] (sp_law_draw K)) (C_law_value : Cal P w K mg base 2 "_law_value" ["_law_pool_here"] (sp_law_value K)) (N_AnswerObject___call__ : MtC P w K mg base 8 (He.ga K "AnswerObject") "__call__" ["self", "value"] (sp_AnswerObject___call__ K))  : FnOk P w K mg base (L2.CX P w) 10 f fd ["_law_pool_here", "_law_world"] (sp_law_answer_deed K) := by
  refine F.ok sc_law_answer_deed (fun vs H Q E h => ?_) (fun cdv A outer s H vs Q E hr h => ?_)
  · obtain ⟨c, D, k, w, rfl, _⟩ := h
    rfl
  · have nd := sc_law_answer_deed.nd
    have tk := takes_of (E := E) (X := (cxOf (L2.CX P w) P w K mg base ["_law_pool_here", "_law_world", "_law_broker_here", "_law_names", "_law_sourced", "_law_opened", "_law_made", "_law_log", "_law_due", "_law_held", "_law_chosen", "_law_mark", "_law_at", "_law_sent", "_law_place", "_law_got", "_law_taken"] "_law_answer_deed" (defScope s_law_answer_deed) f cdv A outer s H E)) rfl rfl rfl rfl
    have po : PassesOwn (model P w) (cxOf (L2.CX P w) P w K mg base ["_law_pool_here", "_law_world", "_law_broker_here", "_law_names", "_law_sourced", "_law_opened", "_law_made", "_law_log", "_law_due", "_law_held", "_law_chosen", "_law_mark", "_law_at", "_law_sent", "_law_place", "_law_got", "_law_taken"] "_law_answer_deed" (defScope s_law_answer_deed) f cdv A outer s H E).A (cxOf (L2.CX P w) P w K mg base ["_law_pool_here", "_law_world", "_law_broker_here", "_law_names", "_law_sourced", "_law_opened", "_law_made", "_law_log", "_law_due", "_law_held", "_law_chosen", "_law_mark", "_law_at", "_law_sent", "_law_place", "_law_got", "_law_taken"] "_law_answer_deed" (defScope s_law_answer_deed) f cdv A outer s H E).env (cxOf (L2.CX P w) P w K mg base ["_law_pool_here", "_law_world", "_law_broker_here", "_law_names", "_law_sourced", "_law_opened", "_law_made", "_law_log", "_law_due", "_law_held", "_law_chosen", "_law_mark", "_law_at", "_law_sent", "_law_place", "_law_got", "_law_taken"] "_law_answer_deed" (defScope s_law_answer_deed) f cdv A outer s H E).xe := passes_of (X := (cxOf (L2.CX P w) P w K mg base ["_law_pool_here", "_law_world", "_law_broker_here", "_law_names", "_law_sourced", "_law_opened", "_law_made", "_law_log", "_law_due", "_law_held", "_law_chosen", "_law_mark", "_law_at", "_law_sent", "_law_place", "_law_got", "_law_taken"] "_law_answer_deed" (defScope s_law_answer_deed) f cdv A outer s H E)) rfl
    obtain ⟨c, D, k, w, rfl, hw, hk, I, kk⟩ := h
    have c_Broker := T.c_Broker
    have a_Broker_names := T.a_Broker_names
    have a_Broker_desks := T.a_Broker_desks
    have a_Broker_entries := T.a_Broker_entries
    have a_Broker_entries_before := T.a_Broker_entries_before
    have a_Broker_made := T.a_Broker_made
    have a_Broker_depth := T.a_Broker_depth
    have c_AnswerObject := T.c_AnswerObject
    have a_AnswerObject_broker := T.a_AnswerObject_broker
    have a_AnswerObject_record := T.a_AnswerObject_record
    refine ⟨_, (pss_cons (ps_asg (pv 1) (q_gtup K 8 (pgs_cons (q_name 2 nd) (pgs_cons (q_name 3 nd) (pgs_cons (q_name 4 nd) (pgs_cons (q_name 5 nd) (pgs_cons (q_name 6 nd) (pgs_cons (q_name 7 nd) (pgs_cons (q_name 8 nd) (pgs_cons (q_name 9 nd) pgs_nil)))))))))) (pss_cons (ps_setLc (i := 10) (own := [("_law_mark", 11)]) rfl nd rfl rfl (sw_true rfl rfl rfl (by decide +kernel)) (pi_range1 rfl T.n_range (pa_cons (pe_callB (cl_len K) (by rfl) T.n_len bt_len (pa_cons (pv 6) pa_nil)) pa_nil)) (blkOk_by (own := [("_law_mark", 11)]) (N := ["_law_pool_here", "_law_world", "_law_broker_here", "_law_names", "_law_sourced", "_law_opened", "_law_made", "_law_log", "_law_due", "_law_held", "_law_chosen", "_law_mark", "_law_at", "_law_sent", "_law_place", "_law_got", "_law_taken"]) (sc := defScope s_law_answer_deed) (by decide +kernel)) (fun _ _ _ _ _ => (q_name 11 nd)) (fun _ _ _ _ _ => (pts_one (q_truth K (pe_ix (ix_dyn K) (pv 4) (pe_ix (ix_dyn K) (pe_ix (ix_dyn K) (pv 6) (pv 11) (fun _ _ => rfl)) pe_int (fun _ _ => rfl)) (fun _ _ => rfl))))) (fun _ _ _ _ _ => (pv 11))) (pss_cons (ps_if (pt_cmpR (op_dEq K hr.units) (pv 10) (pe_lst pa_nil) (nomark _)) (pss_one (ps_ret pe_bl)) pss_nil) (pss_cons (q_set 11 nd (pe_ix (ix_dyn K) (pv 10) (q_call C_law_draw tk (hr.mono (by decide)) (pa_cons (pv 0) (pa_cons (pe_callB (cl_len K) (by rfl) T.n_len bt_len (pa_cons (pv 10) pa_nil)) pa_nil))) (fun _ _ => rfl))) (pss_cut (ps_if (pt_cmpR (op_dEq K hr.units) (q_call C_law_draw tk (hr.mono (by decide)) (pa_cons (pv 0) (pa_cons pe_int pa_nil))) pe_int (nomark _)) (pss_one (q_set 11 nd (pe_ix (ix_dyn K) (pv 10) (pe_op op_dSub (pe_op op_dSub (pe_callB (cl_len K) (by rfl) T.n_len bt_len (pa_cons (pv 10) pa_nil)) pe_int) (q_call C_law_draw tk (hr.mono (by decide)) (pa_cons (pv 0) (pa_cons (pe_callB (cl_min rfl) (by rfl) T.n_min bt_min (pa_cons pe_int (pa_cons (pe_callB (cl_len K) (by rfl) T.n_len bt_len (pa_cons (pv 10) pa_nil)) pa_nil))) pa_nil)))) (fun _ _ => rfl)))) pss_nil) (pss_cons (ps_asg (pe_ix (ix_dyn K) (pv 6) (pv 11) (fun _ _ => rfl)) (q_gtup K 3 (pgs_cons (q_name 12 nd) (pgs_cons (q_name 13 nd) (pgs_cons (q_name 14 nd) pgs_nil))))) (pss_cons (q_set 15 nd (q_call C_law_value tk (hr.mono (by decide)) (pa_cons (pv 0) pa_nil))) (pss_cons (q_set 16 nd (q_callOS (ps0 := ⟨0, 0, 0, 0⟩) N_AnswerObject___call__ tk (hr.mono (by decide)) (pe_ix (ix_dyn K) (pv 9) (pv 14) (fun _ _ => rfl)) (pa_cons (pv 15) pa_nil))) (pss_cons (ps_if (pt_cmpR (op_dNe K hr.units) (pe_ix (ix_dyn K) (pv 5) (pv 12) (fun _ _ => rfl)) (pv 11) (nomark _)) (pss_one (ps_ret (pe_cmpR op_dIsB (pv 16) pe_bl (nomark _)))) pss_nil) (pss_cons (ps_asg (pe_un un_neg pe_int) (pg_sub (pv 5) (pv 12) set_list)) (pss_cons (ps_expr (q_bm K PySem.F.plainAttrs_list PySem.F.slot_list_append PySem.F.type_list_append m_append (pv 8) (pa_cons (pe_tup (pa_cons pe_str (pa_cons (pv 11) (pa_cons (pv 13) (pa_cons (pv 15) (pa_cons pe_bl (pa_cons pe_bl pa_nil))))))) pa_nil))) (pss_one (ps_ret (pe_cmpR op_dIsB (pv 16) pe_bl (nomark _))))))))))))))), ?_⟩
    refine g_start (σ' := some _ :: some _ :: none :: none :: none :: none :: none :: none :: none :: none :: none :: none :: none :: none :: none :: none :: none :: []) rfl ?_
    have hma := I.st.hma
    have hz1 : (D.ms.map fun m : Mk => V.ref m.t).length ≤ 1000 := by rw [List.length_map]; have := I.z5; omega
    walk_at "gb"
    intro A hA
    have hml : (D.ms.map fun m : Mk => V.ref m.t).length = D.ms.length := List.length_map ..
    refine lc_by walk_range (fun i H' => ∃ ns : List Nat, H' = upd H A (.lst (ns.map fun n : Nat => V.int n)) ∧ ns.length ≤ i ∧ ∀ n ∈ ns, n < i ∧ ∃ m, D.ms[n]? = some m ∧ D.ss[m.at_]? = some true) ⟨[], rfl, Nat.le_refl _, fun n hn => by cases hn⟩ (fun _ _ _ _ => trivial) ?_ ?_
    · rintro i x H1 H2 hi ⟨ns, rfl, hl, hns⟩ ⟨rfl, rfl⟩
      rw [hml, Int.toNat_natCast] at hi
      have hm : D.ms[i]? = some (D.ms[i]'hi) := List.getElem?_eq_getElem hi
      generalize D.ms[i]'hi = m at hm
      have hat : atI (D.ms.map fun m : Mk => V.ref m.t) (0 + (i : Int)) = some (.ref m.t) := by rw [Int.zero_add]; exact atI_of (by rw [List.getElem?_map, hm]; rfl)
      obtain ⟨q1, q2, q3, r, d, q4, q5, q6, q7, q8, q9, q10⟩ := I.st.mks i m hm
      have ba : m.at_ < D.ss.length := by rw [I.z1]; exact (List.getElem?_eq_some_iff.mp q5).1
      have hb : D.ss[m.at_]? = some (D.ss[m.at_]'ba) := List.getElem?_eq_getElem ba
      generalize D.ss[m.at_]'ba = bs at hb
      have hbz : atI (D.ss.map V.bl) (m.at_ : Int) = some (.bl bs) := atI_of (by rw [List.getElem?_map, hb]; rfl)
      have kp : ∀ {x : Addr} {o u : HO}, H x = some o → (upd H A u) x = some o := fun h => by rw [upd_ne (ne_of_none h hA)]; exact h
      have h1 := kp (u := .lst (ns.map fun n : Nat => V.int n)) I.st.hso
      have h2 := kp (u := .lst (ns.map fun n : Nat => V.int n)) I.st.hma
      have h3 := kp (u := .lst (ns.map fun n : Nat => V.int n)) q1
      simp only [wipe_cons, wipe_nil, List.map_cons, List.map_nil, List.set_cons_succ, List.set_cons_zero]
      walk_at "gb"
      refine ⟨by first | rfl | walk_at "wipe", ?_⟩
      walk_at "gb"
      cases bs with
      | true =>
        refine iteT' rfl ?_
        walk_at "gb"
        refine ⟨_, upd_same, by rw [List.length_map, sizeLine_eq]; have := I.z5; omega, ns ++ [i], by rw [upd_upd, List.map_append, Int.zero_add]; rfl, by rw [List.length_append, List.length_singleton]; omega, fun n hn => ?_⟩
        rcases List.mem_append.mp hn with hn | hn
        · obtain ⟨h1, h2⟩ := hns n hn
          exact ⟨by omega, h2⟩
        · obtain rfl : n = i := by simpa using hn
          exact ⟨Nat.lt_succ_self _, m, hm, hb⟩
      | false =>
        refine iteF' rfl ?_
        exact ⟨ns, rfl, by omega, fun n hn => ⟨by have := (hns n hn).1; omega, (hns n hn).2⟩⟩
    rintro H1 ⟨ns, rfl, hl, hns⟩
    rw [hml, Int.toNat_natCast] at hl hns
    have eA : Ed [] H (upd H A (.lst (ns.map fun n : Nat => V.int n))) := Ed.new hA
    have hA1 : (upd H A (.lst (ns.map fun n : Nat => V.int n))) A = some (.lst (ns.map fun n : Nat => V.int n)) := upd_same
    generalize upd H A _ = H1 at eA hA1
    walk_at "gb"
    refine ⟨Nat.zero_le _, fun p hp => ?_⟩
    have eP : Ed [] H (upd H1 p (.lst [])) := eA.tr (Ed.new hp) no0
    have hp2 : (upd H1 p (.lst [])) p = some (.lst []) := upd_same
    have hA2 : (upd H1 p (.lst [])) A = some (.lst (ns.map fun n : Nat => V.int n)) := by rw [upd_ne (ne_of_none hA1 hp)]; exact hA1
    generalize upd H1 p _ = H2 at eP hp2 hA2
    have em : (ns.map fun n : Nat => V.int n) = (ns.map fun n : Nat => (n : Int)).map V.int := by rw [List.map_map]; rfl
    have hl5 := I.z5
    have sh1 : Sh (PyData.list ((ns.map fun n : Nat => (n : Int)).map PyData.int)) := (Sd.list (n := 0) (Sd.map fun z _ => Sd.int z)).sh (by decide)
    refine g_eqd (W := []) (W' := []) (Df.ofInts (xs := ns.map fun n : Nat => (n : Int)) List.not_mem_nil (by rw [← em]; exact hA2)) (.lst List.not_mem_nil hp2 .nil) sh1 ((Sd.list (n := 0) Sd.nil).sh (by decide)) ?_
    have I2 := I.ed0 eP
    have et2 : Et c.W H H2 := (Ek.ed eP).et.weak no0
    cases ns with
    | nil =>
      refine ⟨_, rfl, ?_⟩
      refine iteT' (by rfl) ?_
      walk_at "gb"
      exact kk _ _ I2.up rfl et2
    | cons n0 nr =>
      refine ⟨_, rfl, ?_⟩
      refine iteF' (by rfl) ?_
      generalize hN : n0 :: nr = ns at *
      have hpos : 0 < ns.length := by rw [← hN]; simp
      have hlen : (ns.map fun n : Nat => V.int n).length = ns.length := List.length_map ..
      walk_at "gb"
      rw [hlen]
      refine call_draw I2.P (by omega) (by rw [Int.natAbs_natCast]; exact log_sm (by omega)) fun d1 H3 p1 p2 e3 P3 => ?_
      have I3 := I2.ag e3 P3
      have pick : ∀ d : Int, 0 ≤ d → d < ns.length → ∃ n ∈ ns, atI (ns.map fun n : Nat => V.int n) d = some (.int n) := fun d h0 h1 => by
        obtain ⟨j, rfl⟩ := Int.eq_ofNat_of_zero_le h0
        have hj : j < ns.length := by omega
        exact ⟨ns[j], List.getElem_mem hj, atI_of (by rw [List.getElem?_map, List.getElem?_eq_getElem hj]; rfl)⟩
      have agW : ∀ a ∈ [c.a, c.g], a ∈ c.W := fun a ha => by
        simp only [List.mem_cons, List.not_mem_nil, or_false] at ha
        rcases ha with rfl | rfl <;> simp [Cf.W]
      have nA : A ∉ [c.a, c.g] := fun z => I.wl.not hA (agW _ z)
      have hA3 := e3.get nA hA2
      have et3 := et2.tr (Ek.ed e3).et agW
      obtain ⟨n1, hn1, hi1⟩ := pick d1 p1 p2
      walk_at "gb"
      refine g_cut (fun σ' H' => ∃ n ∈ ns, σ' = [some (V.ref c.a), some (V.ref w), some (V.ref c.b), some (V.ref c.n), some (V.ref c.so), some (V.ref c.o), some (V.ref c.ma), some (V.ref c.lg), some (V.ref c.du), some (V.ref c.hl), some (.ref A), some (.int (n : Nat)), none, none, none, none, none] ∧ Inv6 K H' c D k ∧ Et c.W H H') (fun R hR => ?_) ?_
      · walk_at "gb"
        refine call_draw I3.P (by decide) (by decide) fun d2 H4 q1 q2 e4 P4 => ?_
        have I4 := I3.ag e4 P4
        have hA4 := e4.get nA hA3
        have et4 := et3.tr (Ek.ed e4).et agW
        walk_at "gb"
        refine g_iteD (fun _ => ?_) (fun _ => ?_)
        · walk_at "gb"
          rw [hlen]
          refine call_draw I4.P (by omega) (log_sm (by split <;> omega)) fun d3 H5 r1 r2 e5 P5 => ?_
          have I5 := I4.ag e5 P5
          have hA5 := e5.get nA hA4
          have et5 := et4.tr (Ek.ed e5).et agW
          obtain ⟨n2, hn2, hi2⟩ := pick ((ns.length : Nat) - 1 - d3) (by omega) (by omega)
          walk_at "gb"
          exact hR _ _ ⟨n2, hn2, rfl, I5, et5⟩
        · walk_at "gb"
          exact hR _ _ ⟨n1, hn1, rfl, I4, et4⟩
      · rintro σ' H4 ⟨j, hj, rfl, I4, et4⟩
        obtain ⟨hjl, m, hm, hss⟩ := hns j hj
        obtain ⟨q1, q2, q3, r, d, q4, q5, q6, q7, q8, ⟨f, q9, C⟩, q10⟩ := I4.st.mks j m hm
        obtain ⟨pl, h, dx, q11, q12, q13⟩ := q10 hss
        have hat : atI (D.ms.map fun m : Mk => V.ref m.t) (j : Int) = some (.ref m.t) := atI_of (by rw [List.getElem?_map, hm]; rfl)
        have hma4 := I4.st.hma
        walk_at "gb"
        refine ⟨c.W, c.a, c.g, c.s, rfl, I4.P, I4.wl, fun gv gd H5 e5 P5 dg5 vg => ?_⟩
        have I5 := I4.ag e5 P5
        have et5 := et4.tr (Ek.ed e5).et agW
        have ds5 := q2.ed e5 agW
        have C5 := C.et (Ek.ed e5).et fun a ha => I4.lst a (agW a ha)
        have hh5 := I5.st.hhl
        have hb5 := I5.B.hb
        have ha5 : H5 h = some (ansO K dx c.b r.a) := e5.get (fun z => by
          obtain ⟨xs, q⟩ := I4.lst _ (agW _ z)
          rw [q13] at q; cases q) q13
        have hpl : atI (D.hs.map V.ref) m.pl = some (.ref h) := by rw [q11]; exact atI_of (by rw [List.getElem?_map, q12]; rfl)
        have iz : m.at_ < D.os.length := by rw [I4.z2]; exact (List.getElem?_eq_some_iff.mp q5).1
        have hz : D.os[m.at_]? = some (D.os[m.at_]'iz) := List.getElem?_eq_getElem iz
        generalize D.os[m.at_]'iz = z at hz
        have hzz : atI (D.os.map V.int) (m.at_ : Int) = some (.int z) := atI_of (by rw [List.getElem?_map, hz]; rfl)
        walk_at "gb"
        refine ⟨h, dx, c.b, r.a, gv, rfl, ha5, ⟨_, hb5⟩, ans_ok (m := m) I5 (by omega) q4 q5 hz q6 q7 q8 q9 C5 (fun hne => ?_) fun he en eb t H6 e6 B6 ht0 ht hlg6 => ?_⟩
        · have ho5 := I5.st.ho
          walk_at "gb"
          refine iteT' (by simpa using hne) ?_
          walk_at "gb"
          exact kk _ _ I5.up rfl et5
        · have nd6 := I5.nd
          simp only [Cf.W, List.nodup_cons, List.mem_cons, List.not_mem_nil, or_false, not_or, not_false_iff] at nd6
          obtain ⟨⟨nom, nol, nod, noh, _⟩, ⟨nml, nmd, nmh, _⟩, ⟨nld, nlh, _⟩, ⟨ndh, _⟩, _⟩ := nd6
          have g6 : ∀ {x : Addr} {xs : List V}, x ≠ c.lg → H5 x = some (.lst xs) → H6 x = some (.lst xs) := fun {x xs} n1 h => e6.get (fun z => n1 (List.mem_singleton.mp z)) h
          have ho6 := g6 nol I5.st.ho
          have hdu6 := g6 (Ne.symm nld) I5.st.hdu
          walk_at "gb"
          refine iteF' (by simpa using he) ?_
          walk_at "gb"
          have hix : ixN (D.os.map V.int).length (m.at_ : Int) = some m.at_ := NQ.ixN_nat (by rw [List.length_map]; exact iz)
          refine g_setL ho6 hix ?_
          have eo : Ed [c.o] H6 (upd H6 c.o (.lst ((D.os.map V.int).set m.at_ (.int (-1))))) := Ed.put
          have ho7 : (upd H6 c.o (.lst ((D.os.map V.int).set m.at_ (.int (-1))))) c.o = some (.lst ((D.os.set m.at_ (-1)).map V.int)) := by
            rw [upd_same, List.map_set]
          generalize upd H6 c.o _ = H7 at eo ho7
          have hdu7 : H7 c.du = some (.lst D.ys) := eo.get (fun z => nod (List.mem_singleton.mp z).symm) hdu6
          walk_at "gb"
          refine ⟨Nat.le_of_ble_eq_true rfl, fun u hu => ?_⟩
          walk_at "gb"
          have hdu8 : (upd H7 u (.tup [.str "call", .int j, m.sent, gv, .bl false, .bl false])) c.du = some (.lst D.ys) := by rw [upd_ne (ne_of_none hdu7 hu)]; exact hdu7
          refine g_app hdu8 (by have := I5.z4; have := I5.st.dy.length; rw [sizeLine_eq]; omega) ?_
          have e8 : Ed [c.du] H7 (upd (upd H7 u (.tup [.str "call", .int j, m.sent, gv, .bl false, .bl false])) c.du (.lst (D.ys ++ [.ref u]))) := ((Ed.new hu).weak no0).tr Ed.put fun a z => .inl z
          have hu9 : (upd (upd H7 u (.tup [.str "call", .int j, m.sent, gv, .bl false, .bl false])) c.du (.lst (D.ys ++ [.ref u]))) u = some (.tup [.str "call", .int j, m.sent, gv, .bl false, .bl false]) := by rw [upd_ne (ne_of_none hdu7 hu).symm, upd_same]
          have hdu10 : (upd (upd H7 u (.tup [.str "call", .int j, m.sent, gv, .bl false, .bl false])) c.du (.lst (D.ys ++ [.ref u]))) c.du = some (.lst (D.ys ++ [.ref u])) := upd_same
          generalize upd (upd H7 u _) c.du _ = H8 at e8 hu9 hdu10
          walk_at "gb"
          obtain ⟨D', I9, w1, w2⟩ := ans_next (m := j) I5 hk (by omega) et5 q5 q3 vg ds5 dg5 e6 B6 ht0 ht hlg6 ((eo.weak (fun a z => by rw [List.mem_singleton.mp z]; simp)).tr e8 fun a z => .inl (by rw [List.mem_singleton.mp z]; simp)) (e8.get (fun z => nod (List.mem_singleton.mp z)) ho7) (eo.free hu) hu9 hdu10
          exact kk _ _ I9 w1 w2
end
section
variable {P : Program} {w : World} {K : PySem.W.Frag} {mg : Str → Option Value} {base : Heap}
theorem ok_law {f : Addr} {fd : FuncData} (F : FnP K "law" "law" s_law f fd) (T : Txt K mg) (C_law_answer_deed : Cal P w K mg base 10 "_law_answer_deed" ["_law_pool_here", "_law_world"] (sp_law_answer_deed K)) (C_law_ask_deed : Cal P w K mg base 9 "_law_ask_deed" ["_law_pool_here", "_law_world"] (sp_law_ask_deed K)) (C_law_broker : Cal P w K mg base 5 "_law_broker" ["_law_names", "_law_late"] (sp_law_broker K)) (C_law_draw : Cal P w K mg base 1 "_law_draw" ["_law_pool_here", "_law_many"] (sp_law_draw K)) (C_law_pool : Cal P w K mg base 1 "_law_pool" ["_law_script"] (sp_law_pool K)) (C_law_shown : Cal P w K mg base 8 "_law_shown" ["_law_broker_here", "_law_names", "_law_opened"] (sp_law_shown K)) (C_law_source : Cal P w K mg base 1 "_law_source" ["_law_broker_here", "_law_name", "_law_log", "_law_held"] (sp_law_source K)) (C_law_words : Cal P w K mg base 3 "_law_words" ["_law_pool_here", "_law_many"] (sp_law_words K)) (C_law_alike : CalG P w K mg base 1 "_law_alike" ["_law_log", "_law_due"] (sp_law_alike K)) (N_Broker_connect : MtC P w K mg base 4 (He.ga K "Broker") "connect" ["self", "name", "source"] (sp_Broker_connect K))  : FnOkG P w K mg base (L2.CX P w) 11 f fd ["_law_script"] (sp_law K) := by
  refine NL.FunD.okG F sc_law (fun vs H Q E h => ?_) (fun cdv A outer s H vs Q E hG0 hr h => ?_)
  · obtain ⟨a, ns, rfl, _⟩ := h
    rfl
  · have hG : (cxOf (L2.CX P w) P w K mg base ["_law_script", "_law_pool_here", "_law_names", "_law_broker_here", "_law_name", "_law_sourced", "_law_log", "_law_held", "_law_k", "_law_due", "_law_made", "_law_opened", "_law_world", "_law_fine"] "law" (defScope s_law) f cdv A outer s H E).A.guards = some [] := hG0
    have nd := sc_law.nd
    have tk := takes_of (E := E) (X := (cxOf (L2.CX P w) P w K mg base ["_law_script", "_law_pool_here", "_law_names", "_law_broker_here", "_law_name", "_law_sourced", "_law_log", "_law_held", "_law_k", "_law_due", "_law_made", "_law_opened", "_law_world", "_law_fine"] "law" (defScope s_law) f cdv A outer s H E)) rfl rfl rfl rfl
    have po : PassesOwn (model P w) (cxOf (L2.CX P w) P w K mg base ["_law_script", "_law_pool_here", "_law_names", "_law_broker_here", "_law_name", "_law_sourced", "_law_log", "_law_held", "_law_k", "_law_due", "_law_made", "_law_opened", "_law_world", "_law_fine"] "law" (defScope s_law) f cdv A outer s H E).A (cxOf (L2.CX P w) P w K mg base ["_law_script", "_law_pool_here", "_law_names", "_law_broker_here", "_law_name", "_law_sourced", "_law_log", "_law_held", "_law_k", "_law_due", "_law_made", "_law_opened", "_law_world", "_law_fine"] "law" (defScope s_law) f cdv A outer s H E).env (cxOf (L2.CX P w) P w K mg base ["_law_script", "_law_pool_here", "_law_names", "_law_broker_here", "_law_name", "_law_sourced", "_law_log", "_law_held", "_law_k", "_law_due", "_law_made", "_law_opened", "_law_world", "_law_fine"] "law" (defScope s_law) f cdv A outer s H E).xe := passes_of (X := (cxOf (L2.CX P w) P w K mg base ["_law_script", "_law_pool_here", "_law_names", "_law_broker_here", "_law_name", "_law_sourced", "_law_log", "_law_held", "_law_k", "_law_due", "_law_made", "_law_opened", "_law_world", "_law_fine"] "law" (defScope s_law) f cdv A outer s H E)) rfl
    obtain ⟨a, ns, rfl, hT, hS, hl, k⟩ := h
    have c_Broker := T.c_Broker
    have a_Broker_names := T.a_Broker_names
    have a_Broker_desks := T.a_Broker_desks
    have a_Broker_entries := T.a_Broker_entries
    have a_Broker_entries_before := T.a_Broker_entries_before
    have a_Broker_made := T.a_Broker_made
    have a_Broker_depth := T.a_Broker_depth
    refine ⟨_, (pss_cons (q_set 1 nd (q_call C_law_pool tk (hr.mono (by decide)) (pa_cons (pv 0) pa_nil))) (pss_cons (q_set 2 nd (q_call C_law_words tk (hr.mono (by decide)) (pa_cons (pv 1) (pa_cons (pe_op op_dAdd pe_int (q_call C_law_draw tk (hr.mono (by decide)) (pa_cons (pv 1) (pa_cons pe_int pa_nil)))) pa_nil)))) (pss_cons (q_set 3 nd (q_call C_law_broker tk (hr.mono (by decide)) (pa_cons (pv 2) (pa_cons (pe_lc (own := [("_law_name", 4)]) rfl nd (q_list K (pv 2)) (blkOk_by (own := [("_law_name", 4)]) (N := ["_law_script", "_law_pool_here", "_law_names", "_law_broker_here", "_law_name", "_law_sourced", "_law_log", "_law_held", "_law_k", "_law_due", "_law_made", "_law_opened", "_law_world", "_law_fine"]) (sc := defScope s_law) (by decide +kernel)) (fun _ _ _ _ _ => (q_name 4 nd)) (fun _ _ _ _ _ => (pts_one (pt_cmpR (op_dEq K hr.units) (q_call C_law_draw takes0 (hr.mono (by decide)) (pa_cons (pv 1) (pa_cons pe_int pa_nil))) pe_int (nomark _)))) (fun _ _ _ _ _ => (pv 4))) pa_nil)))) (pss_cons (ps_setLc (i := 5) (own := [("_law_name", 4)]) (tt := tYes) rfl nd rfl rfl (sw_true rfl rfl rfl (by decide +kernel)) (q_list K (pv 2)) (blkOk_by (own := [("_law_name", 4)]) (N := ["_law_script", "_law_pool_here", "_law_names", "_law_broker_here", "_law_name", "_law_sourced", "_law_log", "_law_held", "_law_k", "_law_due", "_law_made", "_law_opened", "_law_world", "_law_fine"]) (sc := defScope s_law) (by decide +kernel)) (fun _ _ _ _ _ => (q_name 4 nd)) (fun _ _ _ _ _ => pts_nil) (fun _ _ _ _ _ => (pe_cmpR op_dGt (q_call C_law_draw takes0 (hr.mono (by decide)) (pa_cons (pv 1) (pa_cons pe_int pa_nil))) pe_int (nomark _)))) (pss_cons (ps_par (i := 6) (j := 7) (by rfl) nd rfl rfl (by decide) rfl rfl (pa_cons (pe_lst pa_nil) (pa_cons (pe_lst pa_nil) pa_nil)) (by rfl)) (pss_cons (ps_for po rfl (pi_range1 rfl T.n_range (pa_cons (pe_callB (cl_len K) (by rfl) T.n_len bt_len (pa_cons (pv 2) pa_nil)) pa_nil)) (q_name 8 nd) (pss_one (ps_if (q_truth K (pe_ix (ix_dyn K) (pv 5) (pv 8) (fun _ _ => rfl))) (pss_one (ps_expr (q_meth N_Broker_connect tk (hr.mono (by decide)) (pv 3) (pa_cons (pe_ix (ix_dyn K) (pv 2) (pv 8) (fun _ _ => rfl)) (pa_cons (q_call C_law_source tk (hr.mono (by decide)) (pa_cons (pv 3) (pa_cons (pe_ix (ix_dyn K) (pv 2) (pv 8) (fun _ _ => rfl)) (pa_cons (pv 6) (pa_cons (pv 7) pa_nil))))) pa_nil))))) pss_nil))) (pss_cons (ps_par3 (i := 9) (j := 10) (l := 11) (by rfl) nd rfl rfl rfl (by decide) (by decide) (by decide) rfl rfl rfl (pa_cons (pe_lst pa_nil) (pa_cons (pe_lst pa_nil) (pa_cons (pe_lc (own := [("_law_name", 4)]) (tt := tYes) rfl nd (q_list K (pv 2)) (blkOk_by (own := [("_law_name", 4)]) (N := ["_law_script", "_law_pool_here", "_law_names", "_law_broker_here", "_law_name", "_law_sourced", "_law_log", "_law_held", "_law_k", "_law_due", "_law_made", "_law_opened", "_law_world", "_law_fine"]) (sc := defScope s_law) (by decide +kernel)) (fun _ _ _ _ _ => (q_name 4 nd)) (fun _ _ _ _ _ => pts_nil) (fun _ _ _ _ _ => (pe_un un_neg pe_int))) pa_nil))) (by rfl)) (pss_cons (q_set 12 nd (pe_tup (pa_cons (pv 3) (pa_cons (pv 2) (pa_cons (pv 5) (pa_cons (pv 11) (pa_cons (pv 10) (pa_cons (pv 6) (pa_cons (pv 9) (pa_cons (pv 7) pa_nil)))))))))) (pss_cons (ps_for po rfl (pi_range1 rfl T.n_range (pa_cons (pe_op op_dAdd pe_int (q_call C_law_draw tk (hr.mono (by decide)) (pa_cons (pv 1) (pa_cons pe_int pa_nil)))) pa_nil)) (q_name 8 nd) (pss_cut (ps_if (pt_cmpR (op_dEq K hr.units) (q_call C_law_draw tk (hr.mono (by decide)) (pa_cons (pv 1) (pa_cons pe_int pa_nil))) pe_int (nomark _)) (pss_one (q_set 13 nd (q_call C_law_ask_deed tk (hr.mono (by decide)) (pa_cons (pv 1) (pa_cons (pv 12) pa_nil))))) (pss_one (q_set 13 nd (q_call C_law_answer_deed tk (hr.mono (by decide)) (pa_cons (pv 1) (pa_cons (pv 12) pa_nil)))))) (pss_one (ps_if (PW.pt (pw_or (pt_not (q_truth K (pv 13))) (pw_or (pt_not (q_truth K (q_callG C_law_alike hG tk (hr.mono (by decide)) (pa_cons (pv 6) (pa_cons (pv 9) pa_nil))))) (pw_or1 (pt_not (q_truth K (q_call C_law_shown tk (hr.mono (by decide)) (pa_cons (pv 3) (pa_cons (pv 2) (pa_cons (pv 11) pa_nil)))))))))) (pss_one (ps_ret pe_bl)) pss_nil)))) (pss_one (ps_ret pe_bl))))))))))), ?_⟩
    refine g_start (σ' := some _ :: none :: none :: none :: none :: none :: none :: none :: none :: none :: none :: none :: none :: none :: []) rfl ?_
    walk_at "gb"
    refine ⟨a, ns, rfl, hS, hl, fun p g s H1 hp hg hs e1 P1 => ?_⟩
    walk_at "gb"
    refine call_draw P1 (by decide) (by decide) fun d1 H2 r1 r2 e2 P2 => ?_
    obtain ⟨n0, rfl⟩ := Int.eq_ofNat_of_zero_le r1
    walk_at "gb"
    refine ⟨p, g, s, 1 + n0, rfl, P2, by omega, fun t ws H3 ht e3 P3 hw3 hwl hwo hwn => ?_⟩
    walk_at "gb"
    have tpg : t ∉ [p, g] := fun z => by
      simp only [List.mem_cons, List.not_mem_nil, or_false] at z
      rcases z with rfl | rfl
      · exact P2.alive.1 ht
      · exact P2.alive.2.1 ht
    intro L hL
    have hwm : (ws.map V.str).length = ws.length := List.length_map ..
    have asS : ∀ {i : Nat} {x : V}, (ws.map V.str)[i]? = some x → ∃ nm, ws[i]? = some nm ∧ x = .str nm := fun {i x} h => by
      rw [List.getElem?_map] at h
      cases hn : ws[i]? with
      | none => rw [hn] at h; cases h
      | some nm => rw [hn] at h; exact ⟨nm, rfl, (Option.some.inj h).symm⟩
    refine lc_by (walk_list (xs := ws.map V.str)) (fun i H' => ∃ lt : List Str, H' L = some (.lst (lt.map V.str)) ∧ lt.length ≤ i ∧ (∀ x ∈ lt, x ∈ ws) ∧ Ed [L, p, g] H3 H' ∧ Pool H' p g s) ⟨[], upd_same, Nat.le_refl _, (fun x hx => by cases hx), (Ed.new hL).weak no0, P3.ed0 (Ed.new hL)⟩ (fun i H' hi hh => by
      obtain ⟨lt, _, _, _, e, _⟩ := hh
      exact SqL.of ((ed_drop e hL).get tpg hw3)) (fun i x H' H'' hi hh hy => ?_) (fun H' hh => ?_)
    · obtain ⟨lt, hL1, hl1, hs1, e4, P4⟩ := hh
      obtain ⟨rfl, hx⟩ := hy
      obtain ⟨nm, hn, rfl⟩ := asS hx
      simp only [wipe_cons, wipe_nil, List.map_cons, List.map_nil, List.set_cons_succ, List.set_cons_zero]
      walk_at "gb"
      refine ⟨by first | rfl | walk_at "wipe", ?_⟩
      walk_at "gb"
      refine call_draw P4 (by decide) (by decide) fun d2 H5 q1 q2 e5 P5 => ?_
      have nL : L ∉ [p, g] := fun z => by
        simp only [List.mem_cons, List.not_mem_nil, or_false] at z
        rcases z with rfl | rfl
        · exact P3.alive.1 hL
        · exact P3.alive.2.1 hL
      have hL5 := e5.get nL hL1
      have e45 : Ed [L, p, g] H3 H5 := e4.tr e5 fun a z => .inl (List.mem_cons_of_mem _ z)
      walk_at "gb"
      refine g_iteD (fun _ => ?_) (fun _ => ?_)
      · walk_at "gb"
        refine ⟨_, hL5, by rw [List.length_map, sizeLine_eq]; rw [hwm] at hi; omega, lt ++ [nm], by rw [upd_same, List.map_append]; rfl, by rw [List.length_append, List.length_singleton]; omega, fun x hx => ?_, e45.tr Ed.put fun a z => .inl (by rw [List.mem_singleton.mp z]; simp), P5.ed Ed.put ?_ ?_ ?_⟩
        · rcases List.mem_append.mp hx with hx | hx
          · exact hs1 x hx
          · obtain rfl : x = nm := by simpa using hx
            exact List.mem_of_getElem? hn
        · exact fun z => nL (by rw [← List.mem_singleton.mp z]; simp)
        · exact fun z => nL (by rw [← List.mem_singleton.mp z]; simp)
        · exact fun z => P3.alive.2.2 (by rw [List.mem_singleton.mp z]; exact hL)
      · exact ⟨lt, hL5, by omega, hs1, e45, P5⟩
    obtain ⟨lt, hL4, hl4, hs4, e34, P4⟩ := hh
    rw [hwm] at hl4
    have e34 := ed_drop e34 hL
    have hw4 := e34.get tpg hw3
    generalize H' = H4 at *
    walk_at "gb"
    refine ⟨t, L, ws, lt, rfl, hw4, hL4, by omega, by omega, hs4, hwn, fun b H5 S hb e45 B5 hns hds hes hrs hdp hnl => ?_⟩
    have hw5 := e45.get List.not_mem_nil hw4
    have P5 := P4.ed0 e45
    walk_at "gb"
    intro M hM
    have Mpg : M ∉ [p, g] := fun z => by
      simp only [List.mem_cons, List.not_mem_nil, or_false] at z
      rcases z with rfl | rfl
      · exact P5.alive.1 hM
      · exact P5.alive.2.1 hM
    refine lc_by (walk_list (xs := ws.map V.str)) (fun i H' => ∃ bs : List Bool, H' M = some (.lst (bs.map V.bl)) ∧ bs.length = i ∧ Ed [M, p, g] H5 H' ∧ Pool H' p g s) ⟨[], upd_same, rfl, (Ed.new hM).weak no0, P5.ed0 (Ed.new hM)⟩ (fun i H' hi hh => by
      obtain ⟨bs, _, _, e, _⟩ := hh
      exact SqL.of ((ed_drop e hM).get tpg hw5)) (fun i x H' H'' hi hh hy => ?_) (fun H' hh => ?_)
    · obtain ⟨bs, hM1, hl1, e6, P6⟩ := hh
      obtain ⟨rfl, hx⟩ := hy
      obtain ⟨nm, hn, rfl⟩ := asS hx
      simp only [wipe_cons, wipe_nil, List.map_cons, List.map_nil, List.set_cons_succ, List.set_cons_zero]
      walk_at "gb"
      refine ⟨by first | rfl | walk_at "wipe", ?_⟩
      walk_at "gb"
      refine call_draw P6 (by decide) (by decide) fun d2 H7 q1 q2 e7 P7 => ?_
      have hM7 := e7.get Mpg hM1
      walk_at "gb"
      refine ⟨_, hM7, by rw [List.length_map, sizeLine_eq]; rw [hwm] at hi; omega, bs ++ [decide (0 < d2)], by rw [upd_same, List.map_append]; rfl, by rw [List.length_append, List.length_singleton, hl1], (e6.tr e7 fun a z => .inl (List.mem_cons_of_mem _ z)).tr Ed.put fun a z => .inl (by rw [List.mem_singleton.mp z]; simp), P7.ed Ed.put ?_ ?_ ?_⟩
      · exact fun z => Mpg (by rw [← List.mem_singleton.mp z]; simp)
      · exact fun z => Mpg (by rw [← List.mem_singleton.mp z]; simp)
      · exact fun z => P5.alive.2.2 (by rw [List.mem_singleton.mp z]; exact hM)
    obtain ⟨ss, hM6, hl6, e56, P6⟩ := hh
    rw [hwm] at hl6
    have e56 := ed_drop e56 hM
    have hw6 := e56.get tpg hw5
    generalize H' = H6 at *
    walk_at "gb"
    refine ⟨Nat.zero_le _, fun lg hlg => ?_⟩
    walk_at "gb"
    refine ⟨Nat.zero_le _, fun hl hhl => ?_⟩
    have e7 : Ed [] H6 (upd (upd H6 lg (.lst [])) hl (.lst [])) := (Ed.new hlg).tr (Ed.new hhl) no0
    have nlh : lg ≠ hl := fun z => by rw [← z, upd_same] at hhl; cases hhl
    have hhl6 : H6 hl = none := by rw [upd_ne (Ne.symm nlh)] at hhl; exact hhl
    have hlg7 : (upd (upd H6 lg (.lst [])) hl (.lst [])) lg = some (.lst []) := by rw [upd_ne nlh, upd_same]
    have hhl7 : (upd (upd H6 lg (.lst [])) hl (.lst [])) hl = some (.lst []) := upd_same
    generalize upd (upd H6 lg (.lst [])) hl (.lst []) = H7 at e7 hlg7 hhl7
    have hU1 : Lst [p, g] H1 := fun x hx => by
      obtain ⟨gs, qs, sd, ct, q, _⟩ := P1
      simp only [List.mem_cons, List.not_mem_nil, or_false] at hx
      rcases hx with rfl | rfl
      · exact ⟨_, q.ha⟩
      · exact ⟨_, q.hg⟩
    have w0 : ∀ {A : Addr → Prop}, ∀ a ∈ ([] : List Addr), A a := fun a z => by cases z
    have e16 : Ed [p, g] H1 H7 := ((((e2.tr e3 fun a z => .inl z).tr e34 fun a z => .inl z).tr e45 w0).tr e56 fun a z => .inl z).tr e7 w0
    have hT7 : NdefX.TabsN (TT K) H7 := tabs_ek (tabs_ek hT (Ek.ed e1) fun x hx => by cases hx) (Ek.ed e16) hU1
    have P7 := P6.ed0 e7
    have hw7 := e7.get List.not_mem_nil hw6
    have hM7 := e7.get List.not_mem_nil hM6
    have nlpg : S.nl ∉ [p, g] := fun z => by
      simp only [List.mem_cons, List.not_mem_nil, or_false] at z
      rcases z with z | z
      · rw [z] at hnl; exact P4.alive.1 hnl
      · rw [z] at hnl; exact P4.alive.2.1 hnl
    have hUb : ∀ x ∈ [p, g], (∃ xs, H5 x = some (.lst xs)) ∧ x ≠ S.nl := fun x hx => by
      obtain ⟨gs, qs, sd, ct, q, _⟩ := P5
      refine ⟨?_, fun z => nlpg (by rw [← z]; exact hx)⟩
      simp only [List.mem_cons, List.not_mem_nil, or_false] at hx
      rcases hx with rfl | rfl
      · exact ⟨_, q.ha⟩
      · exact ⟨_, q.hg⟩
    have B7 : Brk K H7 b S := (Brk.ed B5 e56 hUb).ed0 e7
    have hz1 : (ws.map V.str).length ≤ 1000 := by omega
    walk_at "gb"
    refine lp_it walk_range (fun i σ' H' => (∃ v, σ' = [some (.ref a), some (.ref p), some (.ref t), some (.ref b), none, some (.ref M), some (.ref lg), some (.ref hl), v, none, none, none, none, none]) ∧ ∃ S', Brk K H' b S' ∧ S'.ns = ws ∧ S'.nl = S.nl ∧ S'.es = [] ∧ S'.rs = [] ∧ S'.dp = 0 ∧ NdefX.TabsN (TT K) H' ∧ Et [] H7 H' ∧
      ∀ (j : Nat) (d : Dsk), S'.ds[j]? = some d → d.hand = false ∧ ((¬ (j < i ∧ ss[j]? = some true) ∧ d.src = .non) ∨ ((j < i ∧ ss[j]? = some true) ∧ ∃ f, d.src = .ref f ∧ KeepC H' f b hl lg d.name))) ⟨⟨_, rfl⟩, S, B7, hns, rfl, hes, hrs, hdp, hT7, ⟨fun _ _ _ _ h => h, fun _ h => h⟩, fun j d hj => ⟨(hds d (List.mem_of_getElem? hj)).2, .inl ⟨fun z => by omega, (hds d (List.mem_of_getElem? hj)).1⟩⟩⟩ (fun _ _ _ _ _ => trivial) ?_ ?_
    · rintro i x σ' H' H'' hi ⟨⟨v, rfl⟩, S', B', b1, b2, b3, b4, b5, T', et, bd⟩ ⟨rfl, rfl⟩
      rw [hwm, Int.toNat_natCast] at hi
      have hM' := et.get List.not_mem_nil hM7
      have hw' := et.get List.not_mem_nil hw7
      have hsi : ss[i]? = some (ss[i]'(by omega)) := List.getElem?_eq_getElem (by omega)
      generalize ss[i]'(by omega) = bs at hsi
      have hbz : atI (ss.map V.bl) (0 + (i : Int)) = some (.bl bs) := by rw [Int.zero_add]; exact atI_of (by rw [List.getElem?_map, hsi]; rfl)
      have hil : i < S'.ds.length := by
        have q := congrArg List.length b1
        rw [List.length_map] at q
        omega
      have hdi : S'.ds[i]? = some (S'.ds[i]'hil) := List.getElem?_eq_getElem hil
      generalize S'.ds[i]'hil = d at hdi
      have hnz : atI (ws.map V.str) (0 + (i : Int)) = some (.str d.name) := by
        rw [Int.zero_add, ← b1]
        exact atI_of (by rw [List.getElem?_map, List.getElem?_map, hdi]; rfl)
      walk_at "gb"
      cases bs with
      | false =>
        walk_at "gb"
        refine ⟨⟨_, rfl⟩, S', B', b1, b2, b3, b4, b5, T', et, fun j d hj => ?_⟩
        obtain ⟨c1, c2⟩ := bd j d hj
        refine ⟨c1, c2.imp (fun ⟨c3, c4⟩ => ⟨fun ⟨z1, z2⟩ => ?_, c4⟩) fun ⟨⟨c3, c4⟩, c5⟩ => ⟨⟨by omega, c4⟩, c5⟩⟩
        by_cases q : j = i
        · rw [q, hsi] at z2; cases z2
        · exact c3 ⟨by omega, z2⟩
      | true =>
        have hb' := B'.hb
        walk_at "gb"
        refine ⟨rfl, T', fun f cc cl H2' hf eN ll T2 C nc => ?_⟩
        have C2 : KeepC H2' f b hl lg d.name := ⟨cl, cc, C⟩
        have B2 := B'.ext eN
        have hb2 := B2.hb
        walk_at "gb"
        refine ⟨b, S', i, d, .ref f, rfl, B2, hdi, fun H3' x3 B3 => ?_⟩
        have et23 : Et [] H'' H3' := (Et.ext eN ll).tr (Ek.eo (U := []) x3).et fun a z => z
        have nsE : (BSt.setD S' i { d with src := .ref f }).ns = S'.ns := map_set_same hdi rfl
        refine ⟨⟨_, rfl⟩, BSt.setD S' i { d with src := .ref f }, B3, nsE.trans b1, b2, b3, b4, b5, tabs_ek (U := []) T2 (Ek.eo x3) (fun x hx => by cases hx), et.tr et23 fun a z => z, fun j d' hj => ?_⟩
        rcases set_cases hj with ⟨rfl, rfl⟩ | ⟨nj, hj⟩
        · exact ⟨(bd j d hdi).1, .inr ⟨⟨Nat.lt_succ_self _, hsi⟩, f, rfl, C2.et (Ek.eo (U := []) x3).et fun x hx => by cases hx⟩⟩
        · obtain ⟨c1, c2⟩ := bd j d' hj
          refine ⟨c1, c2.imp (fun ⟨c3, c4⟩ => ⟨fun ⟨z1, z2⟩ => c3 ⟨by omega, z2⟩, c4⟩) fun ⟨⟨c3, c4⟩, f', c5, c6⟩ => ⟨⟨by omega, c4⟩, f', c5, c6.et et23 fun x hx => by cases hx⟩⟩
    · rintro σ' H' ⟨⟨v, rfl⟩, S', B', b1, b2, b3, b4, b5, T', et, bd⟩
      rw [hwm, Int.toNat_natCast] at bd
      walk_at "gb"
      refine ⟨Nat.zero_le _, fun du hdu => ?_⟩
      walk_at "gb"
      refine ⟨Nat.zero_le _, fun ma hma => ?_⟩
      walk_at "gb"
      have e8 : Ed [] H' (upd (upd H' du (.lst [])) ma (.lst [])) := (Ed.new hdu).tr (Ed.new hma) no0
      have ndm : du ≠ ma := fun z => by rw [← z, upd_same] at hma; cases hma
      have hma0 : H' ma = none := by rw [upd_ne (Ne.symm ndm)] at hma; exact hma
      have hdu8 : (upd (upd H' du (.lst [])) ma (.lst [])) du = some (.lst []) := by rw [upd_ne ndm, upd_same]
      have hma8 : (upd (upd H' du (.lst [])) ma (.lst [])) ma = some (.lst []) := upd_same
      generalize upd (upd H' du (.lst [])) ma (.lst []) = H8 at e8 hdu8 hma8
      have hw8 := e8.get List.not_mem_nil (et.get List.not_mem_nil hw7)
      refine g_iL1 (SqL.of hw8) ?_
      intro o ho
      refine lc_by (walk_list (xs := ws.map V.str)) (fun i H'' => H'' = upd H8 o (.lst ((List.replicate i (-1 : Int)).map V.int))) rfl (fun i H'' hi hh => by rw [hh]; exact SqL.of (by rw [upd_ne (ne_of_none hw8 ho)]; exact hw8)) (fun i x H'' H3' hi hh hy => ?_) (fun H'' hh => ?_)
      · subst hh
        obtain ⟨rfl, hx⟩ := hy
        obtain ⟨nm, hn, rfl⟩ := asS hx
        simp only [wipe_cons, wipe_nil, List.map_cons, List.map_nil, List.set_cons_succ, List.set_cons_zero]
        walk_at "gb"
        refine ⟨by first | rfl | walk_at "wipe", ?_⟩
        walk_at "gb"
        refine ⟨_, upd_same, by rw [List.length_map, List.length_replicate, sizeLine_eq]; rw [hwm] at hi; omega, ?_⟩
        rw [upd_upd, List.replicate_succ', List.map_append]
        rfl
      subst hh
      rw [hwm]
      have e9 : Ed [] H' (upd H8 o (.lst ((List.replicate ws.length (-1 : Int)).map V.int))) := e8.tr (Ed.new ho) no0
      have ho9 : (upd H8 o (.lst ((List.replicate ws.length (-1 : Int)).map V.int))) o = some (.lst ((List.replicate ws.length (-1 : Int)).map V.int)) := upd_same
      have hdu9 : (upd H8 o (.lst ((List.replicate ws.length (-1 : Int)).map V.int))) du = some (.lst []) := by rw [upd_ne (ne_of_none hdu8 ho)]; exact hdu8
      have hma9 : (upd H8 o (.lst ((List.replicate ws.length (-1 : Int)).map V.int))) ma = some (.lst []) := by rw [upd_ne (ne_of_none hma8 ho)]; exact hma8
      have ndo : du ≠ o := ne_of_none hdu8 ho
      have nmo : ma ≠ o := ne_of_none hma8 ho
      have ho0 : H' o = none := e8.free ho
      generalize upd H8 o _ = H9 at e9 ho9 hdu9 hma9
      walk_at "gb"
      refine ⟨Nat.le_of_ble_eq_true rfl, fun w hw => ?_⟩
      walk_at "gb"
      have e10 : Ed [] H' (upd H9 w (.tup [.ref b, .ref t, .ref M, .ref o, .ref ma, .ref lg, .ref du, .ref hl])) := e9.tr (Ed.new hw) no0
      have hw10 : (upd H9 w (.tup [.ref b, .ref t, .ref M, .ref o, .ref ma, .ref lg, .ref du, .ref hl])) w = some (.tup [.ref b, .ref t, .ref M, .ref o, .ref ma, .ref lg, .ref du, .ref hl]) := upd_same
      have k10 : ∀ {x : Addr} {u : HO}, H9 x = some u → (upd H9 w (.tup [.ref b, .ref t, .ref M, .ref o, .ref ma, .ref lg, .ref du, .ref hl])) x = some u := fun h => by rw [upd_ne (ne_of_none h hw)]; exact h
      have ho10 := k10 ho9
      have hdu10 := k10 hdu9
      have hma10 := k10 hma9
      generalize upd H9 w _ = H10 at e10 hw10 ho10 hdu10 hma10
      have hlg' := et.get List.not_mem_nil hlg7
      have hhl' := et.get List.not_mem_nil hhl7
      have hw' := et.get List.not_mem_nil hw7
      have hM' := et.get List.not_mem_nil hM7
      have P' : Pool H' p g s := P7.keep fun x xs _ q => et.get List.not_mem_nil q
      have fr : ∀ {Hx : Hp} {x y : Addr}, Hx x = none → Hx y ≠ none → ¬ x = y := fun h1 h2 z => h2 (by rw [← z]; exact h1)
      have al : ∀ {Hx : Hp} {x : Addr} {u : HO}, Hx x = some u → Hx x ≠ none := fun h z => by rw [h] at z; cases z
      have npg : ¬ p = g ∧ ¬ s = p ∧ ¬ s = g := by
        obtain ⟨gs, qs, sd, ct, q, _⟩ := P'
        exact ⟨q.nag, Ne.symm q.nas, Ne.symm q.ngs⟩
      have hnl6 : H6 S.nl ≠ none := e56.2 _ (al B5.hn)
      have hnl' : H' S.nl ≠ none := by rw [← b2]; exact al B'.hn
      have tp := tpg
      have Mp := Mpg
      have np := nlpg
      simp only [List.mem_cons, List.not_mem_nil, or_false, not_or] at tp Mp np
      have zl : S'.ds.length = ws.length := by
        have q := congrArg List.length b1
        rw [List.length_map] at q
        exact q
      have B10 : Brk K H10 b S' := B'.ed0 e10
      have I0 : Inv6 K H10 ⟨b, t, M, o, ma, lg, du, hl, p, g, s⟩ ⟨S', ss, List.replicate ws.length (-1), [], [], [], [], []⟩ 0 := by
        refine ⟨⟨by rw [b1]; exact e10.get List.not_mem_nil hw', e10.get List.not_mem_nil hM', ho10, hma10, e10.get List.not_mem_nil hlg', hdu10, e10.get List.not_mem_nil hhl', .nil, .nil, fun j d hj => ?_, fun j m hj => by cases hj⟩, B10, P'.ed0 e10, tabs_ek (U := []) T' (Ek.ed e10) (fun x hx => by cases hx), ?_, ?_, ?_, ?_, ?_, by rw [zl]; exact hl6, by rw [zl]; exact List.length_replicate, by rw [b4]; rfl, Nat.le_refl _, Nat.le_refl _, Nat.le_refl _, fun nm h => hwo nm (by rw [← b1]; exact h), by rw [b1]; omega, by rw [b1]; omega, fun d hd => (by cases hd), b5, fun e he => (by rw [b3] at he; cases he), fun j d z h1 h2 => ?_⟩
        · obtain ⟨c1, c2⟩ := bd j d hj
          have hj2 : j < ss.length := by
            have q0 : j < S'.ds.length := (List.getElem?_eq_some_iff.mp hj).1
            omega
          refine ⟨c1, ?_⟩
          rcases c2 with ⟨c3, c4⟩ | ⟨⟨c3, c4⟩, f, c5, c6⟩
          · refine .inl ⟨?_, c4⟩
            have hb2 : ss[j]? = some (ss[j]'hj2) := List.getElem?_eq_getElem hj2
            cases q : ss[j]'hj2 with
            | false => rw [hb2, q]
            | true => rw [q] at hb2; exact absurd ⟨by rw [← hl6]; exact hj2, hb2⟩ c3
          · exact .inr ⟨c4, f, c5, c6.et (Ek.ed (U := []) e10).et fun x hx => by cases hx⟩
        · simp only [Cf.W, List.nodup_cons, List.mem_cons, List.not_mem_nil, or_false, not_or, not_false_iff, List.nodup_nil, and_true]
          exact ⟨⟨Ne.symm nmo, fr ho0 (al hlg'), Ne.symm ndo, fr ho0 (al hhl'), fr ho0 P'.alive.1, fr ho0 P'.alive.2.1⟩, ⟨fr hma0 (al hlg'), Ne.symm ndm, fr hma0 (al hhl'), fr hma0 P'.alive.1, fr hma0 P'.alive.2.1⟩, ⟨fun z => fr hdu (al hlg') z.symm, nlh, fr hlg P6.alive.1, fr hlg P6.alive.2.1⟩, ⟨fr hdu (al hhl'), fr hdu P'.alive.1, fr hdu P'.alive.2.1⟩, ⟨fr hhl6 P6.alive.1, fr hhl6 P6.alive.2.1⟩, npg.1⟩
        · simp only [Cf.W, List.mem_cons, List.not_mem_nil, or_false, not_or]
          exact ⟨fun z => fr ho0 (al hw') z.symm, fun z => fr hma0 (al hw') z.symm, fun z => fr hlg (al hw6) z.symm, fun z => fr hdu (al hw') z.symm, fun z => fr hhl6 (al hw6) z.symm, tp.1, tp.2⟩
        · simp only [Cf.W, List.mem_cons, List.not_mem_nil, or_false, not_or]
          exact ⟨fun z => fr ho0 (al hM') z.symm, fun z => fr hma0 (al hM') z.symm, fun z => fr hlg (al hM6) z.symm, fun z => fr hdu (al hM') z.symm, fun z => fr hhl6 (al hM6) z.symm, Mp.1, Mp.2⟩
        · show S'.nl ∉ _
          rw [b2]
          simp only [Cf.W, List.mem_cons, List.not_mem_nil, or_false, not_or]
          exact ⟨fun z => fr ho0 hnl' z.symm, fun z => fr hma0 hnl' z.symm, fun z => fr hlg hnl6 z.symm, fun z => fr hdu hnl' z.symm, fun z => fr hhl6 hnl6 z.symm, np.1, np.2⟩
        · simp only [Cf.W, List.mem_cons, List.not_mem_nil, or_false, not_or]
          exact ⟨fun z => fr ho0 P'.alive.2.2 z.symm, fun z => fr hma0 P'.alive.2.2 z.symm, fun z => fr hlg P6.alive.2.2 z.symm, fun z => fr hdu P'.alive.2.2 z.symm, fun z => fr hhl6 P6.alive.2.2 z.symm, npg.2.1, npg.2.2⟩
        · refine .inl ⟨?_, ?_⟩
          · have h2 : (List.replicate ws.length (-1 : Int))[j]? = some z := h2
            exact List.eq_of_mem_replicate (List.mem_of_getElem? h2)
          · unfold BSt.fe
            rw [b3]; rfl
      clear bd b1 b2 b3 b4 b5 T' B' B10 et hlg' hhl' hM' P' k10 fr al npg hnl6 hnl' tp Mp np zl
      refine call_draw I0.P (by decide) (by decide) fun d4 H11 q1 q2 e11 P11 => ?_
      have I1 := I0.ag e11 P11
      have hw11 : H11 w = some (.tup [.ref b, .ref t, .ref M, .ref o, .ref ma, .ref lg, .ref du, .ref hl]) := e11.get (fun z => by
        obtain ⟨xs, q⟩ := I0.lst w (by
          have z : w ∈ [p, g] := z
          simp only [List.mem_cons, List.not_mem_nil, or_false] at z
          rcases z with rfl | rfl <;> simp [Cf.W])
        rw [hw10] at q; cases q) hw10
      walk_at "gb"
      generalize List.replicate ws.length (-1 : Int) = os0 at *
      generalize hD0 : (⟨S', ss, os0, [], [], [], [], []⟩ : Dt) = D0 at I1
      clear I0 hw10 e10 e11 P11 ho10 hdu10 hma10 ho9 hdu9 hma9 e9 hw
      obtain ⟨c, hcb, hcn, hcso, hco, hcma, hclg, hcdu, hchl, hca, hcg, hcs⟩ : ∃ c : Cf, b = c.b ∧ t = c.n ∧ M = c.so ∧ o = c.o ∧ ma = c.ma ∧ lg = c.lg ∧ du = c.du ∧ hl = c.hl ∧ p = c.a ∧ g = c.g ∧ s = c.s := ⟨⟨b, t, M, o, ma, lg, du, hl, p, g, s⟩, rfl, rfl, rfl, rfl, rfl, rfl, rfl, rfl, rfl, rfl, rfl⟩
      have I1 : Inv6 K H11 c D0 0 := by
        have e : c = ⟨b, t, M, o, ma, lg, du, hl, p, g, s⟩ := by rw [hcb, hcn, hcso, hco, hcma, hclg, hcdu, hchl, hca, hcg, hcs]
        rw [e]; exact I1
      rw [hcb, hcn, hcso, hco, hcma, hclg, hcdu, hchl] at hw11
      rw [hcb, hcn, hcso, hco, hcma, hclg, hcdu, hchl, hca]
      refine lp_it walk_range (fun i σ' H' => (∃ v v2, σ' = [some (V.ref a), some (V.ref c.a), some (V.ref c.n), some (V.ref c.b), none, some (V.ref c.so), some (V.ref c.lg), some (V.ref c.hl), v, some (V.ref c.du), some (V.ref c.ma), some (V.ref c.o), some (V.ref w), v2]) ∧ ∃ D', Inv6 K H' c D' i ∧ H' w = some (.tup [V.ref c.b, V.ref c.n, V.ref c.so, V.ref c.o, V.ref c.ma, V.ref c.lg, V.ref c.du, V.ref c.hl])) ⟨⟨_, _, rfl⟩, D0, I1, hw11⟩ (fun _ _ _ _ _ => trivial) ?_ ?_
      · rintro i x σ' H' H'' hi ⟨⟨v, v2, rfl⟩, D', I', hw'⟩ ⟨rfl, rfl⟩
        have hi : i < 51 := by omega
        walk_at "gb"
        refine g_cut (fun σ' H2 => ∃ v D2, σ' = [some (V.ref a), some (V.ref c.a), some (V.ref c.n), some (V.ref c.b), none, some (V.ref c.so), some (V.ref c.lg), some (V.ref c.hl), v, some (V.ref c.du), some (V.ref c.ma), some (V.ref c.o), some (V.ref w), some (.bl true)] ∧ Inv6 K H2 c D2 (i + 1) ∧ H2 w = some (.tup [V.ref c.b, V.ref c.n, V.ref c.so, V.ref c.o, V.ref c.ma, V.ref c.lg, V.ref c.du, V.ref c.hl])) (fun R hR => ?_) ?_
        · walk_at "gb"
          refine call_draw I'.P (by decide) (by decide) fun d5 H12 r1 r2 e12 P12 => ?_
          have I12 := I'.ag e12 P12
          have nW : ∀ {Hx : Hp} {Dx : Dt} {kx : Nat}, Inv6 K Hx c Dx kx → Hx w = some (.tup [V.ref c.b, V.ref c.n, V.ref c.so, V.ref c.o, V.ref c.ma, V.ref c.lg, V.ref c.du, V.ref c.hl]) → w ∉ c.W := fun I h z => by
            obtain ⟨xs, q⟩ := I.lst _ z
            rw [h] at q; cases q
          have hw12 := e12.get (fun z => nW I' hw' (by
            simp only [List.mem_cons, List.not_mem_nil, or_false] at z
            rcases z with z | z <;> rw [z] <;> simp [Cf.W])) hw'
          walk_at "gb"
          refine g_iteD (fun _ => ?_) (fun _ => ?_)
          · walk_at "gb"
            refine ⟨c, D', i, w, rfl, hw12, by omega, I12, fun H13 D13 I13 q e13 => ?_⟩
            walk_at "gb"
            exact hR _ _ ⟨_, D13, rfl, I13, e13.get (nW I12 hw12) hw12⟩
          · walk_at "gb"
            refine ⟨c, D', i, w, rfl, hw12, by omega, I12, fun H13 D13 I13 q e13 => ?_⟩
            walk_at "gb"
            exact hR _ _ ⟨_, D13, rfl, I13, e13.get (nW I12 hw12) hw12⟩
        · rintro σ' H2' ⟨v, D2, rfl, I2, hw2⟩
          obtain ⟨y1, y2, y3, y4, y5⟩ := log_rp I2.lo (by have := I2.z4; omega)
          have wk : ∀ a ∈ ([] : List Addr), a ∈ c.W := fun a z => by cases z
          walk_at "gb"
          refine ⟨[], c.lg, c.du, D2.ds, D2.ds, rfl, .lst List.not_mem_nil I2.st.hlg (I2.st.dx.weak wk), .lst List.not_mem_nil I2.st.hdu (I2.st.dy.weak wk), rfl, y1, y2, y3, y4, y5, ?_⟩
          walk_at "gb"
          refine ⟨c.b, c.n, c.o, D2.S, D2.os, rfl, I2.B, I2.st.hn, I2.st.ho, by rw [I2.z2, BSt.ns, List.length_map], fun j nm z h1 h2 => ?_, I2.dp, I2.ws, fun H3' e3' => ?_⟩
          · rw [BSt.ns, List.getElem?_map] at h1
            cases q : D2.S.ds[j]? with
            | none => rw [q] at h1; cases h1
            | some d =>
              rw [q] at h1
              obtain rfl : d.name = nm := Option.some.inj h1
              unfold BSt.has
              rcases I2.opn j d z q h2 with ⟨z1, z2⟩ | ⟨e, z1, z2⟩
              · rw [z2, z1]; rfl
              · rw [z1, z2]; exact (decide_eq_true (by omega)).symm
          · walk_at "gb"
            exact ⟨⟨_, _, rfl⟩, D2, I2.ed0 e3', e3'.get List.not_mem_nil hw2⟩
      · rintro σ' H' ⟨⟨v, v2, rfl⟩, D', I', hw'⟩
        walk_at "gb"
        exact k _
end
theorem tabs0 {K : PySem.W.Frag} {H : Hp} (ht : ∀ p ∈ tfs.map (He.cT K), H p.2 = some (.tbl #[])) : NdefX.TabsN (TT K) H := fun p hp => by
  simp only [TT, List.mem_cons, List.not_mem_nil, or_false] at hp
  rcases hp with rfl | rfl
  · exact NdefX.TabN.nil (ht (He.cT K ("_law_source", none)) (List.mem_map.mpr ⟨("_law_source", none), by simp [tfs], rfl⟩))
  · exact NdefX.TabN.nil (ht (He.cT K ("_law_call", none)) (List.mem_map.mpr ⟨("_law_call", none), by simp [tfs], rfl⟩))
theorem facts {P : Program} {w : World} {K : PySem.W.Frag} {h : Heap} {mg : Str → Option Value} {f : Addr} (X : K.In h) (G : h.Ns mainGlobals mg) (hfa : mg ("law" : Str) = some (.ref f)) (S : SaysW fns ex tfs h K) :
    ∃ fd : FuncData, (∀ (s : Shared) (v : Value), BindsTo s fd ⟨[v], []⟩ [("_law_script", v)]) ∧ (∀ p ∈ tfs.map (He.cT K), h.get? p.2 = some { cls := .none, data := .fields #[] }) ∧ (∀ p ∈ tfs.map (He.cT K), K.lookup p.2 = none) ∧ (∀ p ∈ tfs.map (He.cT K), PySem.W.CodeHd h p.1 p.2) ∧ ∀ base : Heap, K.In base → base.Ns mainGlobals mg → (∀ p ∈ tfs.map (He.cT K), LamX.TabB base mg p.1 p.2) → FnOkG P w K mg base (L2.CX P w) 11 f fd ["_law_script"] (sp_law K) := by
  have c3 : ((fxB fxs K && (fyB fys K && fzB fzs K)) && (propB K (He.ga K "Broker") "is_idle" && tneB tfs K)) = true := S.t.more
  rw [Bool.and_eq_true] at c3
  obtain ⟨c3, cm⟩ := c3
  have cmx := cm
  simp only [Bool.and_eq_true] at cmx
  obtain ⟨m0, m1⟩ := cmx
  have c1 : (fxB fxs K && (fyB fys K && fzB fzs K)) = true := c3
  have c0 : (fxB fxs K && (fyB fys K && fzB fzs K)) = true := c1
  rw [Bool.and_eq_true, Bool.and_eq_true] at c0
  obtain ⟨c, cy, cz⟩ := c0
  obtain ⟨fd_UnknownRequest___init__, F_UnknownRequest___init__⟩ := S.t.def_ 0 (d := d_UnknownRequest___init__) rfl
  obtain ⟨fd_Record___init__, F_Record___init__⟩ := S.t.def_ 1 (d := d_Record___init__) rfl
  obtain ⟨fd_Desk___init__, F_Desk___init__⟩ := S.t.def_ 2 (d := d_Desk___init__) rfl
  obtain ⟨fd_AnswerObject___init__, F_AnswerObject___init__⟩ := S.t.def_ 3 (d := d_AnswerObject___init__) rfl
  obtain ⟨fd_Handle___init__, F_Handle___init__⟩ := S.t.def_ 4 (d := d_Handle___init__) rfl
  obtain ⟨fd_Broker_is_idle, F_Broker_is_idle⟩ := S.t.def_ 5 (d := d_Broker_is_idle) rfl
  obtain ⟨fd_Broker_is_current, F_Broker_is_current⟩ := S.t.def_ 6 (d := d_Broker_is_current) rfl
  obtain ⟨fd_Broker_desk_of, F_Broker_desk_of⟩ := S.t.def_ 7 (d := d_Broker_desk_of) rfl
  obtain ⟨fd_Broker_open_entries, F_Broker_open_entries⟩ := S.t.def_ 8 (d := d_Broker_open_entries) rfl
  obtain ⟨fd_Broker_open_entry, F_Broker_open_entry⟩ := S.t.def_ 9 (d := d_Broker_open_entry) rfl
  obtain ⟨fd_Broker___contains__, F_Broker___contains__⟩ := S.t.def_ 10 (d := d_Broker___contains__) rfl
  obtain ⟨fd_Broker___len__, F_Broker___len__⟩ := S.t.def_ 11 (d := d_Broker___len__) rfl
  obtain ⟨fd_Broker_close, F_Broker_close⟩ := S.t.def_ 12 (d := d_Broker_close) rfl
  obtain ⟨fd_Broker_waiting_entries, F_Broker_waiting_entries⟩ := S.t.def_ 13 (d := d_Broker_waiting_entries) rfl
  obtain ⟨fd_Broker_connect, F_Broker_connect⟩ := S.t.def_ 14 (d := d_Broker_connect) rfl
  obtain ⟨fd_Broker_call_source, F_Broker_call_source⟩ := S.t.def_ 15 (d := d_Broker_call_source) rfl
  obtain ⟨fd_Broker_answer_at_once, F_Broker_answer_at_once⟩ := S.t.def_ 16 (d := d_Broker_answer_at_once) rfl
  obtain ⟨fd_Broker_answer_idle, F_Broker_answer_idle⟩ := S.t.def_ 17 (d := d_Broker_answer_idle) rfl
  obtain ⟨fd_Broker_receive, F_Broker_receive⟩ := S.t.def_ 18 (d := d_Broker_receive) rfl
  obtain ⟨fd_AnswerObject___call__, F_AnswerObject___call__⟩ := S.t.def_ 19 (d := d_AnswerObject___call__) rfl
  obtain ⟨fd_Broker_make_ask, F_Broker_make_ask⟩ := S.t.def_ 20 (d := d_Broker_make_ask) rfl
  obtain ⟨fd_Broker_ask, F_Broker_ask⟩ := S.t.def_ 21 (d := d_Broker_ask) rfl
  obtain ⟨fd_Broker_waiting, F_Broker_waiting⟩ := S.t.def_ 22 (d := d_Broker_waiting) rfl
  obtain ⟨fd_Broker___init__, F_Broker___init__⟩ := S.t.def_ 23 (d := d_Broker___init__) rfl
  obtain ⟨fd_law_draw, F_law_draw⟩ := S.t.def_ 24 (d := d_law_draw) rfl
  obtain ⟨fd_law_value, F_law_value⟩ := S.t.def_ 25 (d := d_law_value) rfl
  obtain ⟨fd_law_word, F_law_word⟩ := S.t.def_ 26 (d := d_law_word) rfl
  obtain ⟨fd_law_words, F_law_words⟩ := S.t.def_ 27 (d := d_law_words) rfl
  obtain ⟨fd_law_pool, F_law_pool⟩ := S.t.def_ 28 (d := d_law_pool) rfl
  obtain ⟨fd_law_broker, F_law_broker⟩ := S.t.def_ 29 (d := d_law_broker) rfl
  obtain ⟨fd_law_alike, F_law_alike⟩ := S.t.def_ 30 (d := d_law_alike) rfl
  obtain ⟨fd_law_shown, F_law_shown⟩ := S.t.def_ 31 (d := d_law_shown) rfl
  obtain ⟨fd_law_source, F_law_source⟩ := S.t.def_ 32 (d := d_law_source) rfl
  obtain ⟨fd_law_call, F_law_call⟩ := S.t.def_ 33 (d := d_law_call) rfl
  obtain ⟨fd_law_ask_deed, F_law_ask_deed⟩ := S.t.def_ 34 (d := d_law_ask_deed) rfl
  obtain ⟨fd_law_answer_deed, F_law_answer_deed⟩ := S.t.def_ 35 (d := d_law_answer_deed) rfl
  obtain ⟨fd_law, F_law⟩ := S.t.def_ 36 (d := d_law) rfl
  have T : Txt K mg := ⟨fx_free X G c 18, fx_free X G c 19, fx_free X G c 20, fx_free X G c 21, fx_free X G c 22, fx_free X G c 23, ⟨_, fx_glo X G c 0, rfl⟩, fx_glo X G c 0, ⟨_, fx_glo X G c 1, rfl⟩, fx_glo X G c 1, ⟨_, fx_glo X G c 2, rfl⟩, fx_glo X G c 2, ⟨_, fx_glo X G c 3, rfl⟩, fx_glo X G c 3, ⟨_, fx_glo X G c 4, rfl⟩, fx_glo X G c 4, ⟨_, fx_glo X G c 5, rfl⟩, fx_glo X G c 5, fx_cls c 48, fx_noat c 50, fx_noat c 51, fx_cls c 40, fx_noat c 42, fx_noat c 43, fx_noat c 44, fx_noat c 45, fx_noat c 46, fx_noat c 47, fx_cls c 35, fx_noat c 37, fx_noat c 38, fx_noat c 39, fx_cls c 52, fx_noat c 54, fx_noat c 55, fx_noat c 56, fx_noat c 57, fx_cls c 27, fx_noat c 29, fx_noat c 30, fx_noat c 31, fx_noat c 32, fx_noat c 33, fx_noat c 34⟩
  have e := hfa.symm.trans (fx_glo X G c 92)
  cases e
  have b_UnknownRequest___init__ := FunD.bindsN (ps := ["self", "name"]) F_UnknownRequest___init__ fun _ _ _ _ _ _ us hl => match us, hl with | [_, _], _ => rfl
  have b_Record___init__ := FunD.bindsN (ps := ["self", "number", "request", "sent", "call", "owner"]) F_Record___init__ fun _ _ _ _ _ _ us hl => match us, hl with | [_, _, _, _, _, _], _ => rfl
  have b_Desk___init__ := FunD.bindsN (ps := ["self", "is_late"]) F_Desk___init__ fun _ _ _ _ _ _ us hl => match us, hl with | [_, _], _ => rfl
  have b_AnswerObject___init__ := FunD.bindsN (ps := ["self", "broker", "record"]) F_AnswerObject___init__ fun _ _ _ _ _ _ us hl => match us, hl with | [_, _, _], _ => rfl
  have b_Handle___init__ := FunD.bindsN (ps := ["self", "broker", "record"]) F_Handle___init__ fun _ _ _ _ _ _ us hl => match us, hl with | [_, _, _], _ => rfl
  have b_Broker_is_idle := FunD.bindsN (ps := ["self"]) F_Broker_is_idle fun _ _ _ _ _ _ us hl => match us, hl with | [_], _ => rfl
  have b_Broker_is_current := FunD.bindsN (ps := ["self", "record"]) F_Broker_is_current fun _ _ _ _ _ _ us hl => match us, hl with | [_, _], _ => rfl
  have b_Broker_desk_of := FunD.bindsN (ps := ["self", "name"]) F_Broker_desk_of fun _ _ _ _ _ _ us hl => match us, hl with | [_, _], _ => rfl
  have b_Broker_open_entries := FunD.bindsN (ps := ["self"]) F_Broker_open_entries fun _ _ _ _ _ _ us hl => match us, hl with | [_], _ => rfl
  have b_Broker_open_entry := FunD.bindsN (ps := ["self", "name"]) F_Broker_open_entry fun _ _ _ _ _ _ us hl => match us, hl with | [_, _], _ => rfl
  have b_Broker___contains__ := FunD.bindsN (ps := ["self", "name"]) F_Broker___contains__ fun _ _ _ _ _ _ us hl => match us, hl with | [_, _], _ => rfl
  have b_Broker___len__ := FunD.bindsN (ps := ["self"]) F_Broker___len__ fun _ _ _ _ _ _ us hl => match us, hl with | [_], _ => rfl
  have b_Broker_close := FunD.bindsN (ps := ["self", "record"]) F_Broker_close fun _ _ _ _ _ _ us hl => match us, hl with | [_, _], _ => rfl
  have b_Broker_waiting_entries := FunD.bindsN (ps := ["self"]) F_Broker_waiting_entries fun _ _ _ _ _ _ us hl => match us, hl with | [_], _ => rfl
  have b_Broker_connect := FunD.bindsN (ps := ["self", "name", "source"]) F_Broker_connect fun _ _ _ _ _ _ us hl => match us, hl with | [_, _, _], _ => rfl
  have b_Broker_call_source := FunD.bindsN (ps := ["self", "source", "record"]) F_Broker_call_source fun _ _ _ _ _ _ us hl => match us, hl with | [_, _, _], _ => rfl
  have b_Broker_answer_at_once := FunD.bindsN (ps := ["self", "desk", "record", "value"]) F_Broker_answer_at_once fun _ _ _ _ _ _ us hl => match us, hl with | [_, _, _, _], _ => rfl
  have b_Broker_answer_idle := FunD.bindsN (ps := ["self", "record", "value"]) F_Broker_answer_idle fun _ _ _ _ _ _ us hl => match us, hl with | [_, _, _], _ => rfl
  have b_Broker_receive := FunD.bindsN (ps := ["self", "record", "value"]) F_Broker_receive fun _ _ _ _ _ _ us hl => match us, hl with | [_, _, _], _ => rfl
  have b_AnswerObject___call__ := FunD.bindsN (ps := ["self", "value"]) F_AnswerObject___call__ fun _ _ _ _ _ _ us hl => match us, hl with | [_, _], _ => rfl
  have b_Broker_make_ask := FunD.bindsN (ps := ["self", "owner", "name", "sent", "call", "replace"]) F_Broker_make_ask fun _ _ _ _ _ _ us hl => match us, hl with | [_, _, _, _, _, _], _ => rfl
  have b_Broker_waiting := FunD.bindsN (ps := ["self"]) F_Broker_waiting fun _ _ _ _ _ _ us hl => match us, hl with | [_], _ => rfl
  have b_law_draw := FunD.bindsN (ps := ["_law_pool_here", "_law_many"]) F_law_draw fun _ _ _ _ _ _ us hl => match us, hl with | [_, _], _ => rfl
  have b_law_value := FunD.bindsN (ps := ["_law_pool_here"]) F_law_value fun _ _ _ _ _ _ us hl => match us, hl with | [_], _ => rfl
  have b_law_word := FunD.bindsN (ps := ["_law_pool_here", "_law_taken"]) F_law_word fun _ _ _ _ _ _ us hl => match us, hl with | [_, _], _ => rfl
  have b_law_words := FunD.bindsN (ps := ["_law_pool_here", "_law_many"]) F_law_words fun _ _ _ _ _ _ us hl => match us, hl with | [_, _], _ => rfl
  have b_law_pool := FunD.bindsN (ps := ["_law_script"]) F_law_pool fun _ _ _ _ _ _ us hl => match us, hl with | [_], _ => rfl
  have b_law_broker := FunD.bindsN (ps := ["_law_names", "_law_late"]) F_law_broker fun _ _ _ _ _ _ us hl => match us, hl with | [_, _], _ => rfl
  have b_law_alike := FunD.bindsN (ps := ["_law_log", "_law_due"]) F_law_alike fun _ _ _ _ _ _ us hl => match us, hl with | [_, _], _ => rfl
  have b_law_shown := FunD.bindsN (ps := ["_law_broker_here", "_law_names", "_law_opened"]) F_law_shown fun _ _ _ _ _ _ us hl => match us, hl with | [_, _, _], _ => rfl
  have b_law_source := FunD.bindsN (ps := ["_law_broker_here", "_law_name", "_law_log", "_law_held"]) F_law_source fun _ _ _ _ _ _ us hl => match us, hl with | [_, _, _, _], _ => rfl
  have b_law_call := FunD.bindsN (ps := ["_law_broker_here", "_law_name", "_law_log", "_law_mark"]) F_law_call fun _ _ _ _ _ _ us hl => match us, hl with | [_, _, _, _], _ => rfl
  have b_law_ask_deed := FunD.bindsN (ps := ["_law_pool_here", "_law_world"]) F_law_ask_deed fun _ _ _ _ _ _ us hl => match us, hl with | [_, _], _ => rfl
  have b_law_answer_deed := FunD.bindsN (ps := ["_law_pool_here", "_law_world"]) F_law_answer_deed fun _ _ _ _ _ _ us hl => match us, hl with | [_, _], _ => rfl
  have b_law := FunD.bindsN (ps := ["_law_script"]) F_law fun _ _ _ _ _ _ us hl => match us, hl with | [_], _ => rfl
  have bA := FunD.bindsA (ps := ["_law_script"]) F_law fun _ _ _ _ _ _ us hl => match us, hl with | [_], _ => rfl
  refine ⟨fd_law, fun s v => bA s [v] rfl, fun p hp => ?_, fun p hp => ?_, fun p hp => ?_, fun base _ _ TBs => ?_⟩
  · obtain ⟨x, hx, rfl⟩ := List.mem_map.mp hp
    exact S.empty x hx
  · obtain ⟨x, hx, rfl⟩ := List.mem_map.mp hp
    exact S.out x hx
  · obtain ⟨x, hx, rfl⟩ := List.mem_map.mp hp
    exact PySem.W.codeHd_of_K X (S.hd x hx)
  have tne := of_decide_eq_true m1
  have X_UnknownRequest : XC P w K mg base 1 "UnknownRequest" "name" (He.ga K "UnknownRequest") := ⟨fx_glo X G c 5, fx_oex c 24, fx_noat c 26, _, fd_UnknownRequest___init__, _, (fx_fnI c 25).1, (fx_fnI c 25).2, b_UnknownRequest___init__, ok_UnknownRequest___init__ F_UnknownRequest___init__ (fx_oex c 24) (fx_noat c 26)⟩
  have M_Record : MkC P w K mg base 1 "Record" (He.ga K "Record") ["self", "number", "request", "sent", "call", "owner"] (sp_Record___init__ K) := ⟨fx_glo X G c 4, _, fd_Record___init__, fx_mkr c 28, b_Record___init__, ok_Record___init__ (P := P) (w := w) (base := base) F_Record___init__ T ⟩
  have M_Desk : MkC P w K mg base 1 "Desk" (He.ga K "Desk") ["self", "is_late"] (sp_Desk___init__ K) := ⟨fx_glo X G c 2, _, fd_Desk___init__, fx_mkr c 36, b_Desk___init__, ok_Desk___init__ (P := P) (w := w) (base := base) F_Desk___init__ T ⟩
  have M_AnswerObject : MkC P w K mg base 1 "AnswerObject" (He.ga K "AnswerObject") ["self", "broker", "record"] (sp_AnswerObject___init__ K) := ⟨fx_glo X G c 0, _, fd_AnswerObject___init__, fx_mkr c 49, b_AnswerObject___init__, ok_AnswerObject___init__ (P := P) (w := w) (base := base) F_AnswerObject___init__ T ⟩
  have M_Handle : MkC P w K mg base 1 "Handle" (He.ga K "Handle") ["self", "broker", "record"] (sp_Handle___init__ K) := ⟨fx_glo X G c 3, _, fd_Handle___init__, fx_mkr c 53, b_Handle___init__, ok_Handle___init__ (P := P) (w := w) (base := base) F_Handle___init__ T ⟩
  have P_Broker_is_idle : PrC P w K mg base 1 (He.ga K "Broker") "is_idle" ["self"] (sp_Broker_is_idle K) := ⟨fx_cls c 40, _, _, fd_Broker_is_idle, prop_of m0, b_Broker_is_idle, ok_Broker_is_idle (P := P) (w := w) (base := base) F_Broker_is_idle T ⟩
  have N_Broker_is_current : MtC P w K mg base 1 (He.ga K "Broker") "is_current" ["self", "record"] (sp_Broker_is_current K) := ⟨fx_cls c 40, _, fd_Broker_is_current, fx_meth c 58, fx_fnF c 59, b_Broker_is_current, ok_Broker_is_current (P := P) (w := w) (base := base) F_Broker_is_current T ⟩
  have N_Broker_close : MtC P w K mg base 1 (He.ga K "Broker") "close" ["self", "record"] (sp_Broker_close K) := ⟨fx_cls c 40, _, fd_Broker_close, fx_meth c 70, fx_fnF c 71, b_Broker_close, ok_Broker_close (P := P) (w := w) (base := base) F_Broker_close T ⟩
  have C_law_draw : Cal P w K mg base 1 "_law_draw" ["_law_pool_here", "_law_many"] (sp_law_draw K) := ⟨_, fd_law_draw, fx_glo X G c 11, F_law_draw.kp, b_law_draw, ok_law_draw (P := P) (w := w) (base := base) F_law_draw T ⟩
  have C_law_pool : Cal P w K mg base 1 "_law_pool" ["_law_script"] (sp_law_pool K) := ⟨_, fd_law_pool, fx_glo X G c 12, F_law_pool.kp, b_law_pool, ok_law_pool (P := P) (w := w) (base := base) F_law_pool T ⟩
  have C_law_alike : CalG P w K mg base 1 "_law_alike" ["_law_log", "_law_due"] (sp_law_alike K) := ⟨_, fd_law_alike, fx_glo X G c 6, F_law_alike.kp, b_law_alike, ok_law_alike (P := P) (w := w) (base := base) F_law_alike T ⟩
  have C_law_source : Cal P w K mg base 1 "_law_source" ["_law_broker_here", "_law_name", "_law_log", "_law_held"] (sp_law_source K) := ⟨_, fd_law_source, fx_glo X G c 14, F_law_source.kp, b_law_source, ok_law_source (P := P) (w := w) (base := base) F_law_source (TBs (He.cT K ("_law_source", none)) (List.mem_map.mpr ⟨("_law_source", none), by simp [tfs], rfl⟩)) (fun c h => (codeIs_eq (p := ("_law_source", none)) h).symm) (by simpa [tfs] using tne)⟩
  have C_law_call : Cal P w K mg base 1 "_law_call" ["_law_broker_here", "_law_name", "_law_log", "_law_mark"] (sp_law_call K) := ⟨_, fd_law_call, fx_glo X G c 10, F_law_call.kp, b_law_call, ok_law_call (P := P) (w := w) (base := base) F_law_call (TBs (He.cT K ("_law_call", none)) (List.mem_map.mpr ⟨("_law_call", none), by simp [tfs], rfl⟩)) (fun c h => (codeIs_eq (p := ("_law_call", none)) h).symm) (by simpa [tfs] using tne)⟩
  have N_Broker_open_entries : MtC P w K mg base 2 (He.ga K "Broker") "open_entries" ["self"] (sp_Broker_open_entries K) := ⟨fx_cls c 40, _, fd_Broker_open_entries, fx_meth c 62, fx_fnF c 63, b_Broker_open_entries, ok_Broker_open_entries (P := P) (w := w) (base := base) F_Broker_open_entries T N_Broker_is_current⟩
  have C_law_value : Cal P w K mg base 2 "_law_value" ["_law_pool_here"] (sp_law_value K) := ⟨_, fd_law_value, fx_glo X G c 15, F_law_value.kp, b_law_value, ok_law_value (P := P) (w := w) (base := base) F_law_value T C_law_draw⟩
  have C_law_word : Cal P w K mg base 2 "_law_word" ["_law_pool_here", "_law_taken"] (sp_law_word K) := ⟨_, fd_law_word, fx_glo X G c 16, F_law_word.kp, b_law_word, ok_law_word (P := P) (w := w) (base := base) F_law_word T C_law_draw⟩
  have N_Broker_desk_of : MtC P w K mg base 3 (He.ga K "Broker") "desk_of" ["self", "name"] (sp_Broker_desk_of K) := ⟨fx_cls c 40, _, fd_Broker_desk_of, fx_meth c 60, fx_fnF c 61, b_Broker_desk_of, ok_Broker_desk_of (P := P) (w := w) (base := base) F_Broker_desk_of T X_UnknownRequest⟩
  have N_Broker_open_entry : MtC P w K mg base 3 (He.ga K "Broker") "open_entry" ["self", "name"] (sp_Broker_open_entry K) := ⟨fx_cls c 40, _, fd_Broker_open_entry, fx_meth c 64, fx_fnF c 65, b_Broker_open_entry, ok_Broker_open_entry (P := P) (w := w) (base := base) F_Broker_open_entry T N_Broker_open_entries⟩
  have N_Broker___len__ : MtC P w K mg base 3 (He.ga K "Broker") "__len__" ["self"] (sp_Broker___len__ K) := ⟨fx_cls c 40, _, fd_Broker___len__, fx_meth c 68, fx_fnF c 69, b_Broker___len__, ok_Broker___len__ (P := P) (w := w) (base := base) F_Broker___len__ T N_Broker_open_entries⟩
  have N_Broker_waiting_entries : MtC P w K mg base 3 (He.ga K "Broker") "waiting_entries" ["self"] (sp_Broker_waiting_entries K) := ⟨fx_cls c 40, _, fd_Broker_waiting_entries, fx_meth c 72, fx_fnF c 73, b_Broker_waiting_entries, ok_Broker_waiting_entries (P := P) (w := w) (base := base) F_Broker_waiting_entries T N_Broker_open_entries⟩
  have S_Broker : MkS P w K mg base 3 "Broker" (He.ga K "Broker") ["put_off"] (spM (sp_Broker___init__ K)) := ⟨fx_glo X G c 1, _, fx_mkr c 41, ok_Broker___init__ (P := P) (w := w) (base := base) F_Broker___init__ T M_Desk X_UnknownRequest⟩
  have C_law_words : Cal P w K mg base 3 "_law_words" ["_law_pool_here", "_law_many"] (sp_law_words K) := ⟨_, fd_law_words, fx_glo X G c 17, F_law_words.kp, b_law_words, ok_law_words (P := P) (w := w) (base := base) F_law_words T C_law_word⟩
  have N_Broker___contains__ : MtC P w K mg base 4 (He.ga K "Broker") "__contains__" ["self", "name"] (sp_Broker___contains__ K) := ⟨fx_cls c 40, _, fd_Broker___contains__, fx_meth c 66, fx_fnF c 67, b_Broker___contains__, ok_Broker___contains__ (P := P) (w := w) (base := base) F_Broker___contains__ T N_Broker_open_entry⟩
  have N_Broker_connect : MtC P w K mg base 4 (He.ga K "Broker") "connect" ["self", "name", "source"] (sp_Broker_connect K) := ⟨fx_cls c 40, _, fd_Broker_connect, fx_meth c 74, fx_fnF c 75, b_Broker_connect, ok_Broker_connect (P := P) (w := w) (base := base) F_Broker_connect T N_Broker_desk_of⟩
  have W_Broker_waiting : GnC P w K mg base 4 (He.ga K "Broker") "waiting" ["self"] (sp_Broker_waiting K) := ⟨fx_cls c 40, _, fd_Broker_waiting, fx_meth c 90, b_Broker_waiting, ok_Broker_waiting (P := P) (w := w) (base := base) F_Broker_waiting T N_Broker_waiting_entries⟩
  have V_source : CleS P w K mg base 5 (SV_source K) := ⟨fun f => cle_of fun cl c => ok_law_source__law_keep (P := P) (w := w) (base := base) T N_Broker___contains__ P_Broker_is_idle cl c⟩
  have V_call : CleS P w K mg base 5 (SV_call K) := ⟨fun f => cle_of fun cl c => ok_law_call__law_told (P := P) (w := w) (base := base) T N_Broker___contains__ P_Broker_is_idle cl c⟩
  have C_law_broker : Cal P w K mg base 5 "_law_broker" ["_law_names", "_law_late"] (sp_law_broker K) := ⟨_, fd_law_broker, fx_glo X G c 9, F_law_broker.kp, b_law_broker, ok_law_broker (P := P) (w := w) (base := base) F_law_broker T S_Broker⟩
  have N_Broker_call_source : MtC P w K mg base 6 (He.ga K "Broker") "call_source" ["self", "source", "record"] (sp_Broker_call_source K) := ⟨fx_cls c 40, _, fd_Broker_call_source, fx_meth c 76, fx_fnF c 77, b_Broker_call_source, ok_Broker_call_source (P := P) (w := w) (base := base) F_Broker_call_source T V_source M_AnswerObject⟩
  have N_Broker_answer_at_once : MtC P w K mg base 6 (He.ga K "Broker") "answer_at_once" ["self", "desk", "record", "value"] (sp_Broker_answer_at_once K) := ⟨fx_cls c 40, _, fd_Broker_answer_at_once, fx_meth c 78, fx_fnF c 79, b_Broker_answer_at_once, ok_Broker_answer_at_once (P := P) (w := w) (base := base) F_Broker_answer_at_once T V_call N_Broker_close⟩
  have N_Broker_answer_idle : MtC P w K mg base 6 (He.ga K "Broker") "answer_idle" ["self", "record", "value"] (sp_Broker_answer_idle K) := ⟨fx_cls c 40, _, fd_Broker_answer_idle, fx_meth c 80, fx_fnF c 81, b_Broker_answer_idle, ok_Broker_answer_idle (P := P) (w := w) (base := base) F_Broker_answer_idle T V_call N_Broker_close⟩
  have N_Broker_receive : MtC P w K mg base 7 (He.ga K "Broker") "receive" ["self", "record", "value"] (sp_Broker_receive K) := ⟨fx_cls c 40, _, fd_Broker_receive, fx_meth c 82, fx_fnF c 83, b_Broker_receive, ok_Broker_receive (P := P) (w := w) (base := base) F_Broker_receive T N_Broker_answer_at_once N_Broker_answer_idle N_Broker_is_current⟩
  have N_Broker_make_ask : MtC P w K mg base 7 (He.ga K "Broker") "make_ask" ["self", "owner", "name", "sent", "call", "replace"] (sp_Broker_make_ask K) := ⟨fx_cls c 40, _, fd_Broker_make_ask, fx_meth c 86, fx_fnF c 87, b_Broker_make_ask, ok_Broker_make_ask (P := P) (w := w) (base := base) F_Broker_make_ask T M_Handle M_Record N_Broker_call_source N_Broker_close N_Broker_desk_of N_Broker_open_entry⟩
  have N_AnswerObject___call__ : MtC P w K mg base 8 (He.ga K "AnswerObject") "__call__" ["self", "value"] (sp_AnswerObject___call__ K) := ⟨fx_cls c 48, _, fd_AnswerObject___call__, fx_meth c 84, fx_fnF c 85, b_AnswerObject___call__, ok_AnswerObject___call__ (P := P) (w := w) (base := base) F_AnswerObject___call__ T N_Broker_receive⟩
  have o_Broker_ask := ok_Broker_ask (P := P) (w := w) (base := base) F_Broker_ask T N_Broker_make_ask
  have G_Broker_ask : MtG P w K mg base 8 (He.ga K "Broker") "ask" ["self", "name", "sent", "call", "replace"] 4 ["replace"] (sp_Broker_ask K) := ⟨fx_cls c 40, _, fd_Broker_ask, fx_meth c 88, kbn_plainK F_Broker_ask 4 ["replace"] (fun _ _ _ _ _ _ us ws h1 h2 => match us, h1, ws, h2 with | [_, _, _, _], _, [_], _ => rfl), o_Broker_ask⟩
  have D_Broker_ask : MtD P w K mg base 8 (He.ga K "Broker") "ask" ["self", "name", "sent", "call", "replace"] [V.bl false] (sp_Broker_ask K) := by
    obtain ⟨ds, q1, q2⟩ := FunD.binds0 (ps := ["self", "name", "sent", "call", "replace"]) F_Broker_ask 4 (fun z => by cases z) rfl (fun D doc pm an cdv ct us ks h1 h2 => match us, h1, ks, h2 with | [_, _, _, _], _, [_], _ => ⟨_, _, _, _, _, _, rfl, rfl, rfl⟩)
    exact ⟨fx_cls c 40, _, fd_Broker_ask, ds, fx_meth c 88, q1, q2, o_Broker_ask⟩
  have C_law_shown : Cal P w K mg base 8 "_law_shown" ["_law_broker_here", "_law_names", "_law_opened"] (sp_law_shown K) := ⟨_, fd_law_shown, fx_glo X G c 13, F_law_shown.kp, b_law_shown, ok_law_shown (P := P) (w := w) (base := base) F_law_shown T W_Broker_waiting N_Broker___contains__ N_Broker___len__ P_Broker_is_idle⟩
  have C_law_ask_deed : Cal P w K mg base 9 "_law_ask_deed" ["_law_pool_here", "_law_world"] (sp_law_ask_deed K) := ⟨_, fd_law_ask_deed, fx_glo X G c 8, F_law_ask_deed.kp, b_law_ask_deed, ok_law_ask_deed (P := P) (w := w) (base := base) F_law_ask_deed T C_law_call C_law_draw C_law_value D_Broker_ask G_Broker_ask⟩
  have C_law_answer_deed : Cal P w K mg base 10 "_law_answer_deed" ["_law_pool_here", "_law_world"] (sp_law_answer_deed K) := ⟨_, fd_law_answer_deed, fx_glo X G c 7, F_law_answer_deed.kp, b_law_answer_deed, ok_law_answer_deed (P := P) (w := w) (base := base) F_law_answer_deed T C_law_draw C_law_value N_AnswerObject___call__⟩
  exact ok_law (P := P) (w := w) (base := base) F_law T C_law_answer_deed C_law_ask_deed C_law_broker C_law_draw C_law_pool C_law_shown C_law_source C_law_words C_law_alike N_Broker_connect
end NL
open PySem PySem.W PySem.Calls PyProof.Rows
set_option maxHeartbeats 0 in
theorem PySem.Challenge.cw_nowlater_k76_asks_answered_later_holds : PySem.Challenge.rw_nowlater_k76_asks_answered_later.Holds := by
  refine NL.early ?hc
  case hc =>
    refine NL.walkGTs (l := PySem.Challenge.rw_nowlater_k76_asks_answered_later) (n := 63) (k := 11) (x := "_law_script") (CX := fun w => L2.CX (PySem.Challenge.rw_nowlater_k76_asks_answered_later).prog w) rfl (by decide) (by kernel_rfl) ⟨rfl, by decide, by decide⟩ ?F NL.hCX
    intro w mg fa h Y G hmg0
    obtain ⟨K, KX, S⟩ := Y
    have hmg : mg ("law" : PySem.Str) = some (.ref fa) := by
      have e : (HandSHeadRun.topDef NL.RR.prog 22).name = ("law" : PySem.Str) := by kernel_rfl
      rw [← e]
      exact hmg0
    obtain ⟨fd, hb, hE, hO, hCd, hF⟩ := NL.facts (P := (PySem.Challenge.rw_nowlater_k76_asks_answered_later).prog) (w := w) KX G hmg S
    exact ⟨K, KX, fd, NL.sp_law K, _, hE, hO, hCd, hb, fun H a ns hl ht hS => ⟨a, ns, rfl, NL.tabs0 ht, hS, hl, fun _ => rfl⟩, fun base h1 h2 h3 => hF base h1 h2 h3⟩
#print axioms PySem.Challenge.cw_nowlater_k76_asks_answered_later_holds
