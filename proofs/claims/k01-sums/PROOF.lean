import PyProof.Rows.All
import Wide.All
import OpenK.AllK
import Wide.FinOn
import HandS.ForMost
import HandS.ForExc
import HandS.Flow
import HandS.Wide
import HandS.IsInst
import HandS.ExcIs
import HandS.ExcField
import HandS.RaiseMore
import HandS.Star
import HandS.EndBits
import HandS.Walk
import HandS.NoneIn
import HandS.ExcInit
import KE.KExcInit
import PyProof.ExcBaseAll.LookupError
import PyProof.ExcBaseAll.RuntimeError
import KE.KExcIs
import KE.KStateDown
import Lean
import HandS.Defaults
import HandS.Head0
import HandS.Head1
import HandS.Head2
import HandS.HeadEnd
import HandS.HeadHook1
import HandS.HeadHook2
import HandS.HeadHook3
import HandS.HeadHook4
import HandS.EndTab
import HandS.HeadWalk
import PyProof.RulesMatch
import KE.KCallOwn
import HandS.Dict
import HandS.Strs
import HandS.Sort
import HandS.TupAny
import HandS.HeadNt
import HandS.ClsMeth
import HandS.CallLocal
import HandS.Conv
import HandS.Codes
import KE.KUnpackStar
import HandS.Style
import HandS.More
import PyProof.ListStr
import HandS.TupLen
import HandS.Zip
import HandS.TryOnly
import HandS.MakeKw
import HandS.MakeKwOnly
import KE.GoesEnum
import HandS.ExcOwn
import KE.KDictCopyH
import KE.KDictOf
import HandS.TryElse
import HandS.Replace
import HandS.SetBool
import HandS.SetKeys
import KE.KWords
import HandS.ReplaceList
import HandS.WordsDict
import PySem.Challenge.RW_nowlater_k01_sums
set_option Elab.async false
set_option linter.all false
set_option maxRecDepth 100000
set_option maxHeartbeats 4000000
namespace NL
open PySem L2

/-! ### step lemmas: one a reading -/
section
variable {σ : L2.St} {H : Hp} {D : Ends} {i : Nat} {v : V} {Q : VK} {QB : Bool → Hp → Prop} {QA : List V → Hp → Prop}
theorem g_var (e : σ[i]? = some (some v)) (h : Q v H) : tVar i σ H Q := ⟨v, e, h⟩
theorem g_c (h : Q v H) : tC v σ H Q := h
theorem g_op {r : R2} {ta tb : TE} (h : ta σ H fun x H1 => tb σ H1 fun y H2 => r x y H2 Q) : tOp r ta tb σ H Q := h
theorem g_un {r : V → Hp → VK → Prop} {ta : TE} (h : ta σ H fun x H1 => r x H1 Q) : tUn r ta σ H Q := h
theorem g_test {te : TE} (h : te σ H fun x H' => ∃ k, x = .bl k ∧ QB k H') : tTest te σ H QB := h
theorem g_tb {te : TE} (h : te σ H fun x H' => ∃ k, x = .bl k ∧ QB k H') : tB te σ H QB := h
theorem g_bl {b : Bool} {PB : Bool → Prop} (h : PB b) : ∃ k, V.bl b = .bl k ∧ PB k := ⟨b, rfl, h⟩
theorem g_not {t : TT} (h : t σ H fun c H1 => QB (!c) H1) : tNot t σ H QB := h
theorem g_and {t u : TT} (h : t σ H fun c H1 => if c = true then u σ H1 QB else QB false H1) : tAnd t u σ H QB := h
theorem g_or {t u : TT} (h : t σ H fun c H1 => if c = true then QB true H1 else u σ H1 QB) : tOr t u σ H QB := h
theorem g_andT {K : PySem.W.Frag} {ta tb : TE} (h : ta σ H fun x H1 => ∃ k, TruV K x H1 k ∧ if k = true then tb σ H1 Q else Q x H1) : tAndT K ta tb σ H Q := h
theorem g_orT {K : PySem.W.Frag} {ta tb : TE} (h : ta σ H fun x H1 => ∃ k, TruV K x H1 k ∧ if k = true then Q x H1 else tb σ H1 Q) : tOrT K ta tb σ H Q := h
theorem g_notT {K : PySem.W.Frag} {ta : TE} (h : ta σ H fun x H1 => ∃ k, TruV K x H1 k ∧ Q (.bl (!k)) H1) : tNotT K ta σ H Q := h
theorem g_ifE {t : TT} {ta tb : TE} (h : t σ H fun c H1 => if c = true then ta σ H1 Q else tb σ H1 Q) : tIf t ta tb σ H Q := h
theorem g_cb {r : List V → Hp → VK → Prop} {t : TA} (h : t σ H fun vs H1 => r vs H1 Q) : tCB r t σ H Q := h
theorem g_nil (h : QA [] H) : tNil σ H QA := h
theorem g_cons {ta : TE} {tr : TA} (h : ta σ H fun x H1 => tr σ H1 fun xs H2 => QA (x :: xs) H2) : tCons ta tr σ H QA := h
theorem g_callS {sp : Sp} {E : L2.St → XK} {t : TA} (h : t σ H fun vs H1 => sp vs H1 Q (E σ)) : tCallS sp E t σ H Q := h
/-- statements; the ends by places -/
theorem g_seq {t u : TS} {nx : L2.St → Hp → Prop} {rt : VK} {bk ct : L2.St → Hp → Prop} (h : t ⟨u ⟨nx, rt, bk, ct⟩, rt, bk, ct⟩ σ H) : tSeq t u ⟨nx, rt, bk, ct⟩ σ H := h
theorem g_next {nx : L2.St → Hp → Prop} {rt : VK} {bk ct : L2.St → Hp → Prop} (h : nx σ H) : tNext ⟨nx, rt, bk, ct⟩ σ H := h
theorem g_brk {nx : L2.St → Hp → Prop} {rt : VK} {bk ct : L2.St → Hp → Prop} (h : bk σ H) : tBreak ⟨nx, rt, bk, ct⟩ σ H := h
theorem g_cont {nx : L2.St → Hp → Prop} {rt : VK} {bk ct : L2.St → Hp → Prop} (h : ct σ H) : tCont ⟨nx, rt, bk, ct⟩ σ H := h
theorem g_asg {te : TE} {g : TG} {nx : L2.St → Hp → Prop} {rt : VK} {bk ct : L2.St → Hp → Prop} (h : te σ H fun x H1 => g x σ H1 nx) : tAsg te g ⟨nx, rt, bk, ct⟩ σ H := h
theorem g_drop {te : TE} {nx : L2.St → Hp → Prop} {rt : VK} {bk ct : L2.St → Hp → Prop} (h : te σ H fun _ H1 => nx σ H1) : tDrop te ⟨nx, rt, bk, ct⟩ σ H := h
theorem g_ret {te : TE} {nx : L2.St → Hp → Prop} {rt : VK} {bk ct : L2.St → Hp → Prop} (h : te σ H rt) : tRet te ⟨nx, rt, bk, ct⟩ σ H := h
theorem g_retN {nx : L2.St → Hp → Prop} {rt : VK} {bk ct : L2.St → Hp → Prop} (h : rt .non H) : tRetN ⟨nx, rt, bk, ct⟩ σ H := h
theorem g_ifS {c : TT} {t u : TS} (h : c σ H fun b H1 => if b = true then t D σ H1 else u D σ H1) : tIfS c t u D σ H := h
theorem g_name {QS : L2.St → Hp → Prop} (h : QS (σ.set i (some v)) H) : gName i v σ H QS := h
theorem g_nameE {σ' : L2.St} {QS : L2.St → Hp → Prop} (e : σ.set i (some v) = σ') (h : QS σ' H) : gName i v σ H QS := by subst e; exact h
theorem wipe_nil (σ : L2.St) : wipe σ [] = σ := rfl
theorem wipe_cons (σ : L2.St) (i : Nat) (r : List Nat) : wipe σ (i :: r) = (wipe σ r).set i none := rfl
theorem g_sub {QS : L2.St → Hp → Prop} {to ti : TE} {t : TSet} (h : to σ H fun o H1 => ti σ H1 fun i H2 => t o i v H2 fun H3 => QS σ H3) : gSub to ti t v σ H QS := h
theorem g_augE {x : V} {te : TE} {ti : TIp} {nx : L2.St → Hp → Prop} {rt : VK} {bk ct : L2.St → Hp → Prop} (e : σ[i]? = some (some x)) (h : te σ H fun y H1 => ti x y H1 fun z H2 => gName i z σ H2 nx) : tAug i te ti ⟨nx, rt, bk, ct⟩ σ H := ⟨x, e, h⟩
/-- a tuple or a list unpacked -/
def gTL (K : PySem.W.Frag) (n : Nat) (t : TGs) : TG := fun v σ H Q => ∃ a xs, v = .ref a ∧ (SqT K H a xs ∨ SqL K H a xs) ∧ xs.length = n ∧ t xs σ H Q
theorem g_gtup {K : PySem.W.Frag} {n : Nat} {t : TGs} {a : Addr} {xs : List V} {QS : L2.St → Hp → Prop} (h1 : SqT K H a xs) (h2 : xs.length = n) (h : t xs σ H QS) : gTL K n t (.ref a) σ H QS := ⟨a, xs, rfl, .inl h1, h2, h⟩
theorem g_gcons {t : TG} {u : TGs} {r : List V} {QS : L2.St → Hp → Prop} (h : t v σ H fun σ' H' => u r σ' H' QS) : gCons t u (v :: r) σ H QS := ⟨v, r, rfl, h⟩
theorem g_gnil {QS : L2.St → Hp → Prop} (h : QS σ H) : gNil [] σ H QS := ⟨rfl, h⟩
theorem g_lst {t : TA} (h : t σ H fun xs H1 => xs.length ≤ sizeLine ∧ ∀ p, H1 p = none → Q (.ref p) (upd H1 p (.lst xs))) : tLst t σ H Q := h
theorem g_tup {t : TA} (h : t σ H fun xs H1 => xs.length ≤ sizeLine ∧ ∀ p, H1 p = none → Q (.ref p) (upd H1 p (.tup xs))) : tTup t σ H Q := h
theorem g_ite {b : Bool} {A B : Prop} (h1 : b = true → A) (h2 : b = false → B) : if b = true then A else B := by
  cases b
  · exact iteF (h2 rfl)
  · exact iteT (h1 rfl)
theorem g_iteD {c A B : Prop} [Decidable c] (h1 : c → A) (h2 : ¬ c → B) : if decide c = true then A else B :=
  g_ite (fun e => h1 (of_decide_eq_true e)) fun e => h2 (of_decide_eq_false e)
theorem g_iteN {c A B : Prop} [Decidable c] (h1 : ¬ c → A) (h2 : c → B) : if (!decide c) = true then A else B :=
  g_ite (fun e => h1 (by intro z; rw [decide_eq_true z] at e; cases e)) fun e => h2 (by
    by_cases z : c
    · exact z
    · rw [decide_eq_false z] at e; cases e)
end

/-! ### rules by the values' own kinds -/
theorem opR_imp {X : Cx} {f : Value → Value → Sem Value} {r r' : R2} (h : OpR X f r) (i : ∀ x y H Q, r' x y H Q → r x y H Q) : OpR X f r' := fun pins s σ H x y v u Q I rx ry q => h pins s σ H x y v u Q I rx ry (i x y H Q q)
def dAdd : R2 := fun x y H Q => match x, y with
  | .int i, .int j => Q (.int (i + j)) H
  | .str a, .str b => a.length + b.length ≤ sizeLine ∧ Q (.str (a ++ b)) H
  | .ref p, .ref q => ∃ xs ys, H p = some (.lst xs) ∧ H q = some (.lst ys) ∧ xs.length + ys.length ≤ sizeLine ∧ ∀ l, H l = none → Q (.ref l) (upd H l (.lst (xs ++ ys)))
  | _, _ => False
theorem op_dAdd {X : Cx} : OpR X (binaryOp .Add) dAdd := by
  intro pins s σ H x y v u Q I rx ry h
  cases x <;> cases y <;> first
    | exact op_add pins s σ H _ _ v u Q I rx ry ⟨_, _, rfl, rfl, h⟩
    | exact op_add_str pins s σ H _ _ v u Q I rx ry ⟨_, _, rfl, rfl, h.1, h.2⟩
    | (obtain ⟨xs, ys, h1, h2, h3, h4⟩ := h
       exact op_cat pins s σ H _ _ v u Q I rx ry ⟨_, _, _, _, rfl, rfl, h1, h2, h3, h4⟩)
    | exact (show False from h).elim
def dSub : R2 := fun x y H Q => match x, y with
  | .int i, .int j => Q (.int (i - j)) H
  | _, _ => False
theorem op_dSub {X : Cx} : OpR X (binaryOp .Sub) dSub := opR_imp op_sub fun x y H Q h => by
  cases x <;> cases y <;> first
    | exact ⟨_, _, rfl, rfl, h⟩
    | exact (show False from h).elim
def dMul : R2 := fun x y H Q => match x, y with
  | .int i, .int j => (CMul i j ∨ CMulW i j) ∧ Q (.int (i * j)) H
  | .ref p, .int k => ∃ xs, H p = some (.lst xs) ∧ -(2 ^ 63) ≤ k ∧ k < 2 ^ 63 ∧ xs.length * k.toNat ≤ sizeLine ∧ ∀ l, H l = none → Q (.ref l) (upd H l (.lst (List.replicate k.toNat xs).flatten))
  | .str a, .int n => MulOk a n ∧ Q (.str (Txt.mul a n)) H
  | _, _ => False
theorem op_mulS {X : Cx} : OpR X (binaryOp .Mult) (fun x y H Q => ∃ a n, x = .str a ∧ y = .int n ∧ MulOk a n ∧ Q (.str (Txt.mul a n)) H) := by
  intro pins s σ H x y v u Q I rx ry h
  obtain ⟨a, n, rfl, rfl, h1, h2⟩ := h
  obtain ⟨t, rfl⟩ := (show ∃ t, v = Value.str a t from rx)
  obtain ⟨t2, rfl⟩ := (show ∃ t, u = Value.int n t from ry)
  exact SB.mul h1 fun t' k => ⟨.str (Txt.mul a n), H, I.tok k, ⟨t', rfl⟩, h2⟩
def dMod : R2 := fun x y H Q => match x, y with
  | .int i, .int j => 0 < j ∧ Q (.int (i % j)) H
  | _, _ => False
theorem op_dMod {X : Cx} : OpR X (binaryOp .Mod) dMod := opR_imp op_mod fun x y H Q h => by
  cases x <;> cases y <;> first
    | exact ⟨_, _, rfl, rfl, h.1, h.2⟩
    | exact (show False from h).elim
def dDiv : R2 := fun x y H Q => match x, y with
  | .int i, .int j => (0 < j ∧ j.natAbs.log2 < 9000) ∧ Q (.int (i / j)) H
  | _, _ => False
theorem op_dDiv {X : Cx} : OpR X (binaryOp .FloorDiv) dDiv := opR_imp op_fdivW fun x y H Q h => by
  cases x <;> cases y <;> first
    | exact ⟨_, _, rfl, rfl, h.1, h.2⟩
    | exact (show False from h).elim
theorem op_dMul {X : Cx} : OpR X (binaryOp .Mult) dMul := by
  intro pins s σ H x y v u Q I rx ry h
  cases x <;> cases y <;> first
    | (rcases h with ⟨h | h, q⟩
       · exact op_mul pins s σ H _ _ v u Q I rx ry ⟨_, _, rfl, rfl, h, q⟩
       · exact op_mulW pins s σ H _ _ v u Q I rx ry ⟨_, _, rfl, rfl, h, q⟩)
    | (obtain ⟨xs, h1, h2, h3, h4, h5⟩ := h
       exact op_rep pins s σ H _ _ v u Q I rx ry ⟨_, _, _, rfl, rfl, h1, h2, h3, h4, h5⟩)
    | exact op_mulS pins s σ H _ _ v u Q I rx ry ⟨_, _, rfl, rfl, h⟩
    | exact (show False from h).elim
def dPow : R2 := fun x y H Q => match x, y with
  | .int i, .int j => CPow i j ∧ Q (.int (i ^ j.toNat)) H
  | _, _ => False
theorem op_dPow {X : Cx} : OpR X (binaryOp .Pow) dPow := opR_imp op_pow fun x y H Q h => by
  cases x <;> cases y <;> first
    | exact ⟨_, _, rfl, rfl, h.1, h.2⟩
    | exact (show False from h).elim
/-- comparisons of ints -/
def dCmp (f : Int → Int → Bool) : R2 := fun x y H Q => match x, y with
  | .int i, .int j => Q (.bl (f i j)) H
  | _, _ => False
abbrev dLt := dCmp fun i j => decide (i < j)
abbrev dGt := dCmp fun i j => decide (j < i)
abbrev dGe := dCmp fun i j => decide (j ≤ i)
theorem dCmp_imp {f : Int → Int → Bool} (x y : V) (H : Hp) (Q : VK) (h : dCmp f x y H Q) : (rI0 fun i j => .bl (f i j)) x y H Q := by
  cases x <;> cases y <;> first
    | exact ⟨_, _, rfl, rfl, h⟩
    | exact (show False from h).elim
theorem op_dLt {X : Cx} : OpR X (compareOp .Lt) dLt := opR_imp op_lt dCmp_imp
theorem op_dGt {X : Cx} : OpR X (compareOp .Gt) dGt := opR_imp op_gt dCmp_imp
theorem op_dGe {X : Cx} : OpR X (compareOp .GtE) dGe := opR_imp op_ge dCmp_imp
/-- == and != : scalars, or data -/
def dEq (K : PySem.W.Frag) : R2 := fun x y H Q => rEq x y H Q ∨ rEqD K x y H Q
def dNe (K : PySem.W.Frag) : R2 := fun x y H Q => rNe x y H Q ∨ rNeD K x y H Q
theorem op_dEq0 {X : Cx} (hu : X.A.units + 64 < cLine) : OpR X (compareOp .Eq) (dEq X.K) := OpR.or op_eq (op_eqD hu)
theorem op_dNe0 {X : Cx} (hu : X.A.units + 64 < cLine) : OpR X (compareOp .NotEq) (dNe X.K) := OpR.or op_ne (op_neD hu)
/-- in, not in: one sign in a text; a flat thing in a list or tuple -/
def dIn (K : PySem.W.Frag) : R2 := fun x y H Q => match y with
  | .str z => ∃ c : Nat, x = .str ⟨#[c]⟩ ∧ Q (.bl (decide (c ∈ z.cps.toList))) H
  | .ref p => ∃ xs, (SqL K H p xs ∨ SqT K H p xs) ∧ flatV x = true ∧ xs.all flatV = true ∧ Q (.bl (inV x xs)) H
  | _ => False
def dNotIn (K : PySem.W.Frag) : R2 := fun x y H Q => match y with
  | .str z => ∃ c : Nat, x = .str ⟨#[c]⟩ ∧ Q (.bl (!decide (c ∈ z.cps.toList))) H
  | .ref p => ∃ xs, (SqL K H p xs ∨ SqT K H p xs) ∧ flatV x = true ∧ xs.all flatV = true ∧ Q (.bl (!inV x xs)) H
  | _ => False
theorem op_dIn0 {X : Cx} : OpR X (compareOp .In) (dIn X.K) := by
  intro pins s σ H x y v u Q I rx ry h
  cases y with
  | str z =>
    obtain ⟨c, e, q⟩ := h
    exact op_in_sign pins s σ H _ _ v u Q I rx ry ⟨c, z, e, rfl, q⟩
  | ref p =>
    obtain ⟨xs, h1, h2, h3, q⟩ := h
    exact op_in_seq pins s σ H _ _ v u Q I rx ry ⟨p, xs, rfl, h1, h2, h3, q⟩
  | _ => exact (show False from h).elim
theorem op_dNotIn0 {X : Cx} : OpR X (compareOp .NotIn) (dNotIn X.K) := by
  intro pins s σ H x y v u Q I rx ry h
  cases y with
  | str z =>
    obtain ⟨c, e, q⟩ := h
    exact op_notIn_sign pins s σ H _ _ v u Q I rx ry ⟨c, z, e, rfl, q⟩
  | ref p =>
    obtain ⟨xs, h1, h2, h3, q⟩ := h
    exact op_notIn_seq pins s σ H _ _ v u Q I rx ry ⟨p, xs, rfl, h1, h2, h3, q⟩
  | _ => exact (show False from h).elim
def dIs : R2 := fun x y H Q => match y with
  | .non => Q (.bl (decide (x = .non))) H
  | _ => False
def dIsNot : R2 := fun x y H Q => match y with
  | .non => Q (.bl (!decide (x = .non))) H
  | _ => False
theorem op_dIs {X : Cx} : OpR X (compareOp .Is) dIs := opR_imp op_isN fun x y H Q h => by
  cases y <;> first
    | exact ⟨rfl, h⟩
    | exact (show False from h).elim
/-! ### built-in calls -/
def dLen (K : PySem.W.Frag) : List V → Hp → VK → Prop := fun xs H Q => match xs with
  | [.str y] => y.length ≤ sizeLine ∧ Q (.int y.length) H
  | [.ref p] => ∃ ys, (SqL K H p ys ∨ SqT K H p ys) ∧ Q (.int ys.length) H
  | _ => False
theorem cl_len0 {X : Cx} : CallR X (.builtin "len") (dLen X.K) := by
  intro pins s σ H xs us Q I r h
  match xs, h with
  | [.str y], h => exact call_len_str pins s σ H _ us Q I r ⟨y, rfl, h.1, h.2⟩
  | [.ref p], h =>
    obtain ⟨ys, h1, q⟩ := h
    exact call_len_seq pins s σ H _ us Q I r ⟨p, ys, rfl, h1, q⟩
def dInt : List V → Hp → VK → Prop := fun xs H Q => match xs with
  | [.int i] => Q (.int i) H
  | [.bl k] => Q (.int (if k then 1 else 0)) H
  | [.str a] => ∃ n, PySem.intText? a = some n ∧ a.length ≤ 640 ∧ Q (.int n) H
  | _ => False
theorem cl_int {X : Cx} : CallR X (.type "int") dInt := by
  intro pins s σ H xs us Q I r h
  match xs, h with
  | [.int i], h => exact call_int1 pins s σ H _ us Q I r (.inl ⟨i, rfl, h⟩)
  | [.bl k], h => exact call_int1 pins s σ H _ us Q I r (.inr ⟨k, rfl, h⟩)
  | [.str a], h =>
    obtain ⟨n, h1, h2, q⟩ := h
    exact call_int_str pins s σ H _ us Q I r ⟨a, n, rfl, h1, h2, q⟩
def dStr : List V → Hp → VK → Prop := fun xs H Q => match xs with
  | [.int i] => i.natAbs.log2 < 1920 ∧ Q (.str (toString i)) H
  | [.str a] => Q (.str a) H
  | _ => False
theorem cl_str {X : Cx} : CallR X (.type "str") dStr := by
  intro pins s σ H xs us Q I r h
  match xs, h with
  | [.int i], h => exact call_str_int pins s σ H _ us Q I r ⟨i, rfl, h.1, h.2⟩
  | [.str a], h => exact SkE.call_str_str pins s σ H _ us Q I r ⟨a, rfl, h⟩
def dAbs : List V → Hp → VK → Prop := fun xs H Q => match xs with
  | [.int i] => Q (.int (if i < 0 then -i else i)) H
  | _ => False
theorem cl_abs {X : Cx} : CallR X (.builtin "abs") dAbs := by
  intro pins s σ H xs us Q I r h
  match xs, h with
  | [.int i], h => exact call_abs pins s σ H _ us Q I r ⟨i, rfl, h⟩
def dMax : List V → Hp → VK → Prop := fun xs H Q => match xs with
  | [.int i, .int j] => Q (.int (if j > i then j else i)) H
  | _ => False
theorem cl_max {X : Cx} (hc : X.calm = true) : CallR X (.builtin "max") dMax := by
  intro pins s σ H xs us Q I r h
  match xs, h with
  | [.int i, .int j], h => exact call_max2 hc pins s σ H _ us Q I r ⟨i, j, rfl, h⟩
def dMin : List V → Hp → VK → Prop := fun xs H Q => match xs with
  | [.int i, .int j] => Q (.int (if j < i then j else i)) H
  | _ => False
theorem cl_min {X : Cx} (hc : X.calm = true) : CallR X (.builtin "min") dMin := by
  intro pins s σ H xs us Q I r h
  match xs, h with
  | [.int i, .int j], h => exact call_min2 hc pins s σ H _ us Q I r ⟨i, j, rfl, h⟩
def dList (K : PySem.W.Frag) : List V → Hp → VK → Prop := fun xs H Q => match xs with
  | [.ref p] => ∃ ys, (SqL K H p ys ∨ SqT K H p ys) ∧ ∀ l, H l = none → Q (.ref l) (upd H l (.lst ys))
  | _ => False
def dIsi (K : PySem.W.Frag) : List V → Hp → VK → Prop := rIsi K
theorem cl_isinstance0 {X : Cx} : CallR X (.builtin "isinstance") (dIsi X.K) := call_isi
/-! ### subscripts, slices -/
def dIx (K : PySem.W.Frag) : R2 := fun x y H Q => match x, y with
  | .ref p, .int i => ∃ xs v, (SqL K H p xs ∨ SqT K H p xs) ∧ atI xs i = some v ∧ Q v H
  | .str z, .int i => ∃ c, z.length ≤ sizeLine ∧ atI z.cps.toList i = some c ∧ Q (.str ⟨#[c]⟩) H
  | _, _ => False
theorem ix_dyn0 {X : Cx} : IxR X (dIx X.K) := by
  intro value slice pins s σ H x y v u Q I rx ry h hs
  refine ix_seq value slice pins s σ H x y v u Q I rx ry ?_ hs
  cases x <;> cases y <;> first
    | (obtain ⟨xs, w, h1 | h1, h2, q⟩ := h
       · exact .inl ⟨_, xs, _, w, rfl, rfl, h1, h2, q⟩
       · exact .inr (.inl ⟨_, xs, _, w, rfl, rfl, h1, h2, q⟩))
    | (obtain ⟨c, h1, h2, q⟩ := h
       exact .inr (.inr ⟨_, _, c, rfl, rfl, h1, h2, q⟩))
    | exact (show False from h).elim
def dSl (K : PySem.W.Frag) : V → Option Int → Option Int → Hp → VK → Prop := fun x lo hi H Q => match x with
  | .ref p => ∃ xs, SqL K H p xs ∧ ∀ l, H l = none → Q (.ref l) (upd H l (.lst (cutV xs lo hi)))
  | .str z => z.length ≤ sizeLine ∧ Q (.str (cutS z lo hi)) H
  | _ => False
theorem sl_dyn0 {X : Cx} : SlR X (dSl X.K) := by
  intro pins s σ H x v vl vu lo hi sl Q I rx hs pl pu h
  cases x with
  | ref p =>
    obtain ⟨xs, h1, q⟩ := h
    exact sl_list pins s σ H _ v vl vu lo hi sl Q I rx hs pl pu ⟨p, xs, rfl, h1, q⟩
  | str z => exact sl_str pins s σ H _ v vl vu lo hi sl Q I rx hs pl pu ⟨z, rfl, h.1, h.2⟩
  | _ => exact (show False from h).elim
section
variable {X : Cx} (K : PySem.W.Frag)
theorem op_dIn (h : X.K = K := by rfl) : OpR X (compareOp .In) (dIn K) := h ▸ op_dIn0
theorem op_dNotIn (h : X.K = K := by rfl) : OpR X (compareOp .NotIn) (dNotIn K) := h ▸ op_dNotIn0
theorem op_dEq (hu : X.A.units + 64 < cLine) (h : X.K = K := by rfl) : OpR X (compareOp .Eq) (dEq K) := h ▸ op_dEq0 hu
theorem op_dNe (hu : X.A.units + 64 < cLine) (h : X.K = K := by rfl) : OpR X (compareOp .NotEq) (dNe K) := h ▸ op_dNe0 hu
theorem cl_len (h : X.K = K := by rfl) : CallR X (.builtin "len") (dLen K) := h ▸ cl_len0
theorem cl_isinstance (h : X.K = K := by rfl) : CallR X (.builtin "isinstance") (dIsi K) := h ▸ cl_isinstance0
theorem ix_dyn (h : X.K = K := by rfl) : IxR X (dIx K) := h ▸ ix_dyn0
theorem sl_dyn (h : X.K = K := by rfl) : SlR X (dSl K) := h ▸ sl_dyn0
end
/-! ### the forms that gen.py writes -/
section
variable {X : Cx} {x : Str} {e : Expr} {es : List Expr} {te : TE} {t : TA} {pos pos' p : Pos}
theorem q_set (i : Nat) (hN : X.N.Nodup) (he : PE X e te) (hi : X.N[i]? = some x := by rfl) (hx : Loc X.env.scope x := by first | exact Or.inl rfl | exact Or.inr rfl)
    (hs : swapsWith e (some (.Name x pos')) pos.line X.env = pure false := by rfl) (hf : X.fn x = true ∨ X.env.scope.names.lookup x = some .local := by first | exact .inl rfl | exact .inr rfl) :
    PS X (.Assign [.Name x pos'] e pos) (tAsg te (gName i)) := ps_set hN hi hx he hs hf
theorem q_name (i : Nat) (hN : X.N.Nodup) (hi : X.N[i]? = some x := by rfl) (hx : Loc X.env.scope x := by first | exact Or.inl rfl | exact Or.inr rfl)
    (hf : X.fn x = true ∨ X.env.scope.names.lookup x = some .local := by first | exact .inl rfl | exact .inr rfl) : PG X (.Name x pos) (gName i) := pg_name hN hi hx hf
theorem q_aug (i : Nat) {op : Operator} {ti : TIp} (hN : X.N.Nodup) (he : PE X e te) (ho : PIp X op ti) (hi : X.N[i]? = some x := by rfl) (hx : Loc X.env.scope x := by first | exact Or.inl rfl | exact Or.inr rfl)
    (hf : X.fn x = true ∨ X.env.scope.names.lookup x = some .local := by first | exact .inl rfl | exact .inr rfl) : PS X (.AugAssign (.Name x pos') op e pos) (tAug i te ti) := ps_aug hN hi hx he ho hf
/-- a module's name and its value -/
def GV (mg : Str → Option Value) (x : Str) (v : V) : Prop := ∃ u, mg x = some u ∧ RelV v u
theorem q_glob {v : V} (h : GV X.mg x v) (hg : Gl X x := by rfl) (hd : (x == ("__debug__" : Str)) = false := by decide) : PE X (.Name x pos) (tC v) := by
  obtain ⟨u, h1, h2⟩ := h
  exact pe_glob hg h1 h2 hd
/-- a def of the module: where it stands, how it binds, what it promises -/
structure Cal (P : Program) (w : World) (K : PySem.W.Frag) (mg : Str → Option Value) (base : Heap) (k : Nat) (x : Str) (ps : List Str) (sp : Sp) : Prop where
  ex : ∃ f fd, mg x = some (.ref f) ∧ PySem.W.keepIn K (.ref f) = true ∧ Binds K fd ps [] ∧ FnOk P w K mg base (L2.CX P w) k f fd ps sp
theorem q_call {W : WX} {k : Nat} {ps : List Str} {sp : Sp} (C : Cal X.prog X.w X.K X.mg X.base k x ps sp) (tk : Takes X W) (hr : Room k X.A) (ha : PA X (e :: es) t) (hg : Gl X x := by rfl) (hdb : (x == ("__debug__" : Str)) = false := by decide)
    (he : starEach (e :: es) X.env = (false, eval e X.env) :: starEach es X.env := by rfl) (hpl : (backTo pos (starEach es X.env)).any (·.1) = false := by rfl) :
    PE X (.Call (.Name x p) (e :: es) [] pos) (tCallS sp (WE W) t) := by
  obtain ⟨f, fd, h1, h2, h3, h4⟩ := C.ex
  exact pe_callS h4 hr hg h1 h2 h3 (fun σ => passAt tk σ) ha hdb he hpl
end

/-! ### step lemmas of the rules by kinds -/
section
variable {K : PySem.W.Frag} {H : Hp} {Q : VK} {i j : Int} {a b : Str} {p : Addr} {xs : List V} {v : V} {k : Bool}
theorem g_add_i (h : Q (.int (i + j)) H) : dAdd (.int i) (.int j) H Q := h
theorem g_add_s (z : a.length + b.length ≤ sizeLine) (h : Q (.str (a ++ b)) H) : dAdd (.str a) (.str b) H Q := ⟨z, h⟩
theorem g_sub_i (h : Q (.int (i - j)) H) : dSub (.int i) (.int j) H Q := h
theorem g_mul_i (z : CMul i j ∨ CMulW i j) (h : Q (.int (i * j)) H) : dMul (.int i) (.int j) H Q := ⟨z, h⟩
theorem g_mod_i (z : 0 < j) (h : Q (.int (i % j)) H) : dMod (.int i) (.int j) H Q := ⟨z, h⟩
theorem g_div_i (z : 0 < j ∧ j.natAbs.log2 < 9000) (h : Q (.int (i / j)) H) : dDiv (.int i) (.int j) H Q := ⟨z, h⟩
theorem g_pow_i (z : CPow i j) (h : Q (.int (i ^ j.toNat)) H) : dPow (.int i) (.int j) H Q := ⟨z, h⟩
theorem g_cmp_i {f : Int → Int → Bool} (h : Q (.bl (f i j)) H) : dCmp f (.int i) (.int j) H Q := h
theorem dec_i : decide (V.int i = V.int j) = decide (i = j) := by simp
theorem dec_s : decide (V.str a = V.str b) = decide (a = b) := by simp
theorem dec_b {c d : Bool} : decide (V.bl c = V.bl d) = decide (c = d) := by simp
theorem g_eq_i (h : Q (.bl (decide (i = j))) H) : dEq K (.int i) (.int j) H Q := .inl ⟨rfl, by rw [dec_i]; exact h⟩
theorem g_eq_s (h : Q (.bl (decide (a = b))) H) : dEq K (.str a) (.str b) H Q := .inl ⟨rfl, by rw [dec_s]; exact h⟩
theorem g_eq_b {c d : Bool} (h : Q (.bl (decide (c = d))) H) : dEq K (.bl c) (.bl d) H Q := .inl ⟨rfl, by rw [dec_b]; exact h⟩
theorem g_ne_i (h : Q (.bl (!decide (i = j))) H) : dNe K (.int i) (.int j) H Q := .inl ⟨rfl, by rw [dec_i]; exact h⟩
theorem g_ne_s (h : Q (.bl (!decide (a = b))) H) : dNe K (.str a) (.str b) H Q := .inl ⟨rfl, by rw [dec_s]; exact h⟩
theorem g_ne_b {c d : Bool} (h : Q (.bl (!decide (c = d))) H) : dNe K (.bl c) (.bl d) H Q := .inl ⟨rfl, by rw [dec_b]; exact h⟩
theorem g_len_s (z : a.length ≤ sizeLine) (h : Q (.int a.length) H) : dLen K [.str a] H Q := ⟨z, h⟩
theorem g_len_l (z : SqL K H p xs ∨ SqT K H p xs) (h : Q (.int xs.length) H) : dLen K [.ref p] H Q := ⟨xs, z, h⟩
theorem g_int_i (h : Q (.int i) H) : dInt [.int i] H Q := h
theorem g_int_s {n : Int} (z1 : PySem.intText? a = some n) (z2 : a.length ≤ 640) (h : Q (.int n) H) : dInt [.str a] H Q := ⟨n, z1, z2, h⟩
theorem g_str_i (z : i.natAbs.log2 < 1920) (h : Q (.str (toString i)) H) : dStr [.int i] H Q := ⟨z, h⟩
theorem g_str_s (h : Q (.str a) H) : dStr [.str a] H Q := h
theorem g_abs (h : Q (.int (if i < 0 then -i else i)) H) : dAbs [.int i] H Q := h
theorem g_max (h : Q (.int (if j > i then j else i)) H) : dMax [.int i, .int j] H Q := h
theorem g_min (h : Q (.int (if j < i then j else i)) H) : dMin [.int i, .int j] H Q := h
theorem g_ix_l (z1 : SqL K H p xs ∨ SqT K H p xs) (z2 : atI xs i = some v) (h : Q v H) : dIx K (.ref p) (.int i) H Q := ⟨xs, v, z1, z2, h⟩
theorem g_ix_s {c : Nat} (z1 : a.length ≤ sizeLine) (z2 : atI a.cps.toList i = some c) (h : Q (.str ⟨#[c]⟩) H) : dIx K (.str a) (.int i) H Q := ⟨c, z1, z2, h⟩
theorem g_setL {QH : Hp → Prop} {n : Nat} (z1 : H p = some (.lst xs)) (z2 : ixN xs.length i = some n) (h : QH (upd H p (.lst (xs.set n v)))) : rSetL (.ref p) (.int i) v H QH := ⟨p, xs, i, n, rfl, rfl, z1, z2, h⟩
theorem g_isN (h : Q (.bl (decide (v = .non))) H) : dIs v .non H Q := h
theorem g_isNotN (h : Q (.bl (!decide (v = .non))) H) : dIsNot v .non H Q := h
end
theorem bt_len : bootBuiltins "len" = some (.builtin "len") := by decide +kernel
theorem bt_abs : bootBuiltins "abs" = some (.builtin "abs") := by decide +kernel
theorem bt_max : bootBuiltins "max" = some (.builtin "max") := by decide +kernel
theorem bt_min : bootBuiltins "min" = some (.builtin "min") := by decide +kernel
theorem bt_isinstance : bootBuiltins "isinstance" = some (.builtin "isinstance") := by decide +kernel
theorem bt_sorted : bootBuiltins "sorted" = some (.builtin "sorted") := by decide +kernel
theorem bt_int : bootBuiltins "int" = some (.type "int") := by decide +kernel
theorem bt_str : bootBuiltins "str" = some (.type "str") := by decide +kernel
theorem bt_bool : bootBuiltins "bool" = some (.type "bool") := by decide +kernel
theorem bt_list : bootBuiltins "list" = some (.type "list") := by decide +kernel
theorem q_bltn {X : Cx} {x : Str} {n : String} {pos : Pos} (hm : X.mg x = none) (hv : bootBuiltins x = some (.type n)) (hg : Gl X x := by rfl) (hn : x ≠ "__name__" := by decide) (hd : (x == ("__debug__" : Str)) = false := by decide) : PE X (.Name x pos) (tC (.ty n)) :=
  pe_bltn hg hm hv rfl hn hd
/-! ### loops -/
def Loop (J : It) (g : TG) (tb : TS) (D : Ends) (σ : L2.St) (H : Hp) : Prop := ∃ W : Nat → Nat → L2.St → Hp → Prop, (∃ m, W 0 m σ H) ∧ ∀ i m σ H, W i m σ H →
  (J.stop i H ∧ D.nx σ H) ∨ (J.go i H ∧ ∃ N : L2.St → Hp → Prop, (∀ σ' H', N σ' H' → ∃ m', m' < m ∧ W (i + 1) m' σ' H') ∧ ∀ x H', J.yld i H x H' → g x σ H' fun σ2 H2 => tb { D with nx := N, ct := N, bk := D.nx } σ2 H2)
def LoopC (J : It) (g : TG) (tt : TT) (te : TE) (vs : List Nat) (σ : L2.St) (H1 : Hp) (D : Addr) (Qd : Hp → Prop) : Prop := ∃ W : Nat → Nat → Hp → Prop, (∃ m, W 0 m (upd H1 D (.lst []))) ∧ ∀ i m H, W i m H →
  (J.stop i H ∧ Qd H) ∨ (J.go i H ∧ ∃ Nx : Hp → Prop, (∀ H', Nx H' → ∃ m', m' < m ∧ W (i + 1) m' H') ∧ ∀ x H', J.yld i H x H' → g x (wipe σ vs) H' fun σ2 H2 => wipe σ2 vs = wipe σ vs ∧ tt σ2 H2 fun b H3 =>
    if b = true then te σ2 H3 fun y H4 => ∃ acc, H4 D = some (.lst acc) ∧ acc.length < sizeLine ∧ Nx (upd H4 D (.lst (acc ++ [y]))) else Nx H3)
section
variable {σ : L2.St} {H : Hp} {K : PySem.W.Frag} {R : It → Hp → Prop} {p : Addr} {xs ys : List V} {te : TE} {ta : TA}
theorem g_for {wi : TI} {g : TG} {tb : TS} {D : Ends} (h : wi σ H fun J H1 => Loop J g tb D σ H1) : tFor wi g tb D σ H := h
theorem g_lc {wi : TI} {g : TG} {tt : TT} {te : TE} {vs : List Nat} {Q : VK} (h : wi σ H fun J H1 => ∀ D, H1 D = none → LoopC J g tt te vs σ H1 D fun H' => Q (.ref D) H') : tLc wi g tt te vs σ H Q := h
theorem g_iL (h : te σ H fun x H1 => ∃ a, x = .ref a ∧ (∃ xs, SqL K H1 a xs) ∧ R (Itl K a) H1) : iList K te σ H R := h
theorem g_iL1 {Z : Addr → Prop} (z : SqL K H p xs) (h : Z p) : ∃ a, V.ref p = .ref a ∧ (∃ xs, SqL K H a xs) ∧ Z a := ⟨p, rfl, ⟨xs, z⟩, h⟩
theorem g_iT (h : te σ H fun x H1 => ∃ a, x = .ref a ∧ (∃ xs, SqT K H1 a xs) ∧ R (Itt K a) H1) : iTup K te σ H R := h
theorem g_iT1 {Z : Addr → Prop} (z : SqT K H p xs) (h : Z p) : ∃ a, V.ref p = .ref a ∧ (∃ xs, SqT K H a xs) ∧ Z a := ⟨p, rfl, ⟨xs, z⟩, h⟩
theorem g_iS (h : te σ H fun v H1 => ∃ x, v = .str x ∧ R (Its x) H1) : iStr te σ H R := h
theorem g_iS1 {Z : Str → Prop} {a : Str} (h : Z a) : ∃ x, V.str a = .str x ∧ Z x := ⟨a, rfl, h⟩
theorem g_iE (h : ta σ H fun vs H1 => ∃ a xs, vs = [.ref a] ∧ SqL K H1 a xs ∧ R (Ite K a) H1) : iEnum K ta σ H R := h
theorem g_iE1 {Z : Addr → Prop} (z : SqL K H p xs) (h : Z p) : ∃ a xs, [V.ref p] = [.ref a] ∧ SqL K H a xs ∧ Z a := ⟨p, xs, rfl, z, h⟩
theorem g_iR (h : ta σ H fun vs H1 => ∃ j : Int, vs = [.int j] ∧ -(2 ^ 62) ≤ j ∧ j < 2 ^ 62 ∧ R (Itr 0 j.toNat) H1) : iRng1 ta σ H R := h
theorem g_iR1 {j : Int} (z1 : -(2 ^ 62) ≤ j) (z2 : j < 2 ^ 62) {Z : Int → Prop} (h : Z j) : ∃ i : Int, [V.int j] = [.int i] ∧ -(2 ^ 62) ≤ i ∧ i < 2 ^ 62 ∧ Z i := ⟨j, rfl, z1, z2, h⟩
/-- the forms of loops: an invariant by the turn -/
theorem lp_it {J : It} {n : Nat} {G : Hp → Prop} {Y : Nat → Hp → V → Hp → Prop} (w : Walk J n G Y) {g : TG} {tb : TS} {nx : L2.St → Hp → Prop} {rt : VK} {bk ct : L2.St → Hp → Prop} (Pv : Nat → L2.St → Hp → Prop) (h0 : Pv 0 σ H) (hG : ∀ i σ H, i ≤ n → Pv i σ H → G H)
    (hs : ∀ i x σ H H', i < n → Pv i σ H → Y i H x H' → g x σ H' fun σ2 H2 => tb ⟨Pv (i + 1), rt, nx, Pv (i + 1)⟩ σ2 H2) (hd : ∀ σ H, Pv n σ H → nx σ H) : Loop J g tb ⟨nx, rt, bk, ct⟩ σ H := for_it w Pv h0 hG hs hd
theorem lc_by {J : It} {n : Nat} {G : Hp → Prop} {Y : Nat → Hp → V → Hp → Prop} (w : Walk J n G Y) {g : TG} {tt : TT} {te : TE} {vs : List Nat} {D : Addr} {Qd : Hp → Prop} (Pv : Nat → Hp → Prop) (h0 : Pv 0 (upd H D (.lst []))) (hG : ∀ i H, i ≤ n → Pv i H → G H)
    (hs : ∀ i x H H', i < n → Pv i H → Y i H x H' → g x (wipe σ vs) H' fun σ2 H2 => wipe σ2 vs = wipe σ vs ∧ tt σ2 H2 fun b H3 =>
      if b = true then te σ2 H3 fun y H4 => ∃ acc, H4 D = some (.lst acc) ∧ acc.length < sizeLine ∧ Pv (i + 1) (upd H4 D (.lst (acc ++ [y]))) else Pv (i + 1) H3) (hd : ∀ H, Pv n H → Qd H) : LoopC J g tt te vs σ H D Qd := lc_it w Pv h0 hG hs hd
theorem g_yes {QB : Bool → Hp → Prop} (h : QB true H) : tYes σ H QB := h
theorem g_sl {r : V → Option Int → Option Int → Hp → VK → Prop} {te : TE} {tl th : TO} {Q : VK} (h : te σ H fun x H1 => tl σ H1 fun l H2 => th σ H2 fun u H3 => r x l u H3 Q) : tSl r te tl th σ H Q := h
theorem g_noP {QO : Option Int → Hp → Prop} (h : QO none H) : tNoPart σ H QO := h
theorem g_part {QO : Option Int → Hp → Prop} {t : TE} (h : t σ H fun x H1 => ∃ i, x = .int i ∧ QO (some i) H1) : tPart t σ H QO := h
theorem g_int1 {i : Int} {Z : Int → Prop} (h : Z i) : ∃ j, V.int i = .int j ∧ Z j := ⟨i, rfl, h⟩
theorem g_slL {lo hi : Option Int} {Q : VK} (z : SqL K H p xs) (h : ∀ l, H l = none → Q (.ref l) (upd H l (.lst (cutV xs lo hi)))) : dSl K (.ref p) lo hi H Q := ⟨xs, z, h⟩
theorem g_listL {Q : VK} (z : SqL K H p xs ∨ SqT K H p xs) (h : ∀ l, H l = none → Q (.ref l) (upd H l (.lst xs))) : dList K [.ref p] H Q := ⟨xs, z, h⟩
theorem g_inL {x : V} {Q : VK} (z1 : SqL K H p xs ∨ SqT K H p xs) (z2 : flatV x = true) (z3 : xs.all flatV = true) (h : Q (.bl (inV x xs)) H) : dIn K x (.ref p) H Q := ⟨xs, z1, z2, z3, h⟩
theorem g_ninL {x : V} {Q : VK} (z1 : SqL K H p xs ∨ SqT K H p xs) (z2 : flatV x = true) (z3 : xs.all flatV = true) (h : Q (.bl (!inV x xs)) H) : dNotIn K x (.ref p) H Q := ⟨xs, z1, z2, z3, h⟩
theorem g_inS {c : Nat} {z : Str} {Q : VK} (h : Q (.bl (decide (c ∈ z.cps.toList))) H) : dIn K (.str ⟨#[c]⟩) (.str z) H Q := ⟨c, rfl, h⟩
theorem g_ninS {c : Nat} {z : Str} {Q : VK} (h : Q (.bl (!decide (c ∈ z.cps.toList))) H) : dNotIn K (.str ⟨#[c]⟩) (.str z) H Q := ⟨c, rfl, h⟩
theorem g_bm {T : String} {r : V → List V → Hp → VK → Prop} {to : TE} {t : TA} {Q : VK} (h : to σ H fun x H1 => tyV K T x H1 ∧ t σ H1 fun xs H2 => r x xs H2 Q) : tBM K T r to t σ H Q := h
theorem g_bm0 {T : String} {r : V → List V → Hp → VK → Prop} {to : TE} {Q : VK} (h : to σ H fun x H1 => tyV K T x H1 ∧ r x [] H1 Q) : tBM0 K T r to σ H Q := h
theorem g_app {v : V} {Q : VK} (z1 : H p = some (.lst xs)) (z2 : xs.length < sizeLine) (h : Q .non (upd H p (.lst (xs ++ [v])))) : rAppend (.ref p) [v] H Q := ⟨p, xs, v, rfl, rfl, z1, z2, h⟩
theorem g_fld {ta : TE} {f : Str} {Q : VK} (h : ta σ H fun x H1 => ∃ a C dx fs v, x = .ref a ∧ H1 a = some (.ins C dx fs) ∧ Cls K C ∧ NoAttr K C f ∧ fs.lookup f = some v ∧ Q v H1) : tFld K ta f σ H Q := h
theorem g_sfld {ta tv : TE} {f : Str} {nx : L2.St → Hp → Prop} {rt : VK} {bk ct : L2.St → Hp → Prop} (h : tv σ H fun y H1 => ta σ H1 fun x H2 => ∃ a C dx fs, x = .ref a ∧ H2 a = some (.ins C dx fs) ∧ Cls K C ∧ NoAttr K C f ∧ fs.length < 1000 ∧ nx σ (upd H2 a (.ins C dx (putF f y fs)))) :
    sFld K ta tv f ⟨nx, rt, bk, ct⟩ σ H := h
theorem tyL {xs : List V} (z : SqL K H p xs) : tyV K "list" (.ref p) H := .inl ⟨rfl, xs, z⟩
theorem g_tyL {B : Prop} (z : SqL K H p xs) (h : B) : tyV K "list" (.ref p) H ∧ B := ⟨tyL z, h⟩
theorem g_tyS {B : Prop} {a : Str} (h : B) : tyV K "str" (.str a) H ∧ B := ⟨rfl, h⟩
theorem tru_b {b : Bool} {Z : Bool → Prop} (h : Z b) : ∃ k, TruV K (.bl b) H k ∧ Z k := ⟨b, rfl, h⟩
theorem tru_i {i : Int} {Z : Bool → Prop} (h : Z (i != 0)) : ∃ k, TruV K (.int i) H k ∧ Z k := ⟨_, rfl, h⟩
theorem tru_n {Z : Bool → Prop} (h : Z false) : ∃ k, TruV K .non H k ∧ Z k := ⟨_, rfl, h⟩
end
/-! ### heaps that keep what they had, but at some places -/
def Sx (W : List Addr) (H H' : Hp) : Prop := ∀ a o, a ∉ W → H a = some o → H' a = some o
theorem Sx.refl {W : List Addr} (H : Hp) : Sx W H H := fun _ _ _ h => h
theorem Sx.trans {W : List Addr} {H H1 H2 : Hp} (a : Sx W H H1) (b : Sx W H1 H2) : Sx W H H2 := fun c o h e => b c o h (a c o h e)
theorem Sx.of {W : List Addr} {H H' : Hp} (h : Same H H') : Sx W H H' := fun a o _ e => h a o e
theorem Sx.same {H H' : Hp} (h : Sx [] H H') : Same H H' := fun a o e => h a o (by simp) e
theorem Sx.new {W : List Addr} {H H' : Hp} {p : Addr} {o : HO} (h : Sx W H H') (n : H' p = none) : Sx W H (upd H' p o) := fun a u w e => by
  have q := h a u w e
  rw [upd_ne (ne_of_none q n)]; exact q
theorem Sx.mut {W : List Addr} {H H' : Hp} {p : Addr} {o : HO} (h : Sx W H H') (n : H p = none) : Sx W H (upd H' p o) := fun a u w e => by
  rw [upd_ne (ne_of_none e n)]; exact h a u w e
theorem Sx.put {W : List Addr} {H H' : Hp} {p : Addr} {o : HO} (h : Sx W H H') (n : p ∈ W) : Sx W H (upd H' p o) := fun a u w e => by
  rw [upd_ne (show a ≠ p from fun z => w (by rw [z]; exact n))]; exact h a u w e
theorem Sx.mono {W W' : List Addr} {H H' : Hp} (h : Sx W H H') (i : ∀ a ∈ W, a ∈ W') : Sx W' H H' := fun a o w e => h a o (fun z => w (i a z)) e
theorem Sx.free {W : List Addr} {H H' : Hp} {p : Addr} (h : Sx W H H') (w : p ∉ W) (n : H' p = none) : H p = none := by
  cases q : H p with
  | none => rfl
  | some o => rw [h p o w q] at n; cases n
theorem Sx.get1 {b a : Addr} {o : HO} {H H' : Hp} (h : Sx [b] H H') (n : a ≠ b) (e : H a = some o) : H' a = some o := h a o (by simpa using n) e
theorem _root_.L2.Same.new {H H' : Hp} {p : Addr} {o : HO} (h : Same H H') (n : H' p = none) : Same H (upd H' p o) := fun a u e => by
  have q := h a u e
  rw [upd_ne (ne_of_none q n)]; exact q
theorem _root_.L2.Same.mut {H H' : Hp} {p : Addr} {o : HO} (h : Same H H') (n : H p = none) : Same H (upd H' p o) := fun a u e => by
  rw [upd_ne (ne_of_none e n)]; exact h a u e
/-! ### the same rules, the written part by its letter -/
section
variable {X : Cx} (K : PySem.W.Frag) {e o : Expr} {es : List Expr} {te ta tv : TE} {t : TA} {tg : Expr} {pos pos' p tpos apos cpos : Pos}
theorem q_list (he : PE X e te) (h : X.K = K := by rfl) : PI X tg e (iList K te) := h ▸ pi_list he
theorem q_enum {elts : List Expr} {kk : Nat} (hm : X.mg "enumerate" = none) (ha : PA X [e] t) (hg : Gl X "enumerate" := by rfl) (hs : starEach [e] X.env = [(false, eval e X.env)] := by rfl) (h : X.K = K := by rfl) :
    PI X (.Tuple elts kk tpos) (.Call (.Name "enumerate" p) [e] [] pos) (iEnum K t) := h ▸ pi_enum hg hm ha hs
theorem q_gtup (n : Nat) {k : Nat} {ts : TGs} (h : PGs X es ts) (hc : X.calm = true := by rfl) (hn : (assignEach es X.env).length = n := by rfl) (hst : (assignEach es X.env).findIdx? (·.1) = none := by rfl) (hK : X.K = K := by rfl) :
    PG X (.Tuple es k pos) (gTL K n ts) := by
  subst hK
  refine ⟨fun pins s σ H v u Q I r q => ?_⟩
  obtain ⟨a, xs, e, h1 | h1, h2, h3⟩ := q
  · exact (pg_tup hc h hn hst).run pins s σ H v u Q I r ⟨a, xs, e, h1, h2, h3⟩
  · exact (pg_unl hc h hn hst).run pins s σ H v u Q I r ⟨a, xs, e, h1, h2, h3⟩
theorem q_truth (ha : PE X e ta) (he : ∀ whole, isTrue e X.env whole = (do let v ← whole; standAt e.pos; holding [v] (truthy v)) := by intro _; rfl) (h : X.K = K := by rfl) :
    PT X e (fun σ H Q => ta σ H fun x H' => ∃ k, TruV K x H' k ∧ Q k H') := h ▸ pt_truth ha he
theorem q_orT {b : Expr} {rest : List Expr} {tb : TE} (ha : PE X e ta) (hb : PE X (.BoolOp .Or (b :: rest) pos) tb) (h : X.K = K := by rfl) : PE X (.BoolOp .Or (e :: b :: rest) pos) (tOrT K ta tb) := h ▸ pe_orT ha hb
theorem q_andT {b : Expr} {rest : List Expr} {tb : TE} (ha : PE X e ta) (hb : PE X (.BoolOp .And (b :: rest) pos) tb) (h : X.K = K := by rfl) : PE X (.BoolOp .And (e :: b :: rest) pos) (tAndT K ta tb) := h ▸ pe_andT ha hb
theorem q_notT (ha : PE X e ta) (h : X.K = K := by rfl) : PE X (.UnaryOp .Not e pos) (tNotT K ta) := h ▸ pe_notT ha
theorem q_fld {f : Str} (ha : PE X o ta) (hb : attributeBase o f X.env (eval o X.env) = eval o X.env := by rfl) (h : X.K = K := by rfl) : PE X (.Attribute o f pos) (tFld K ta f) := h ▸ pe_fld ha hb
theorem q_sfld {f : Str} (ha : PE X o ta) (hv : PE X e tv) (hs : swapsWith e (some (.Attribute o f pos')) pos.line X.env = pure false := by rfl) (h : X.K = K := by rfl) : PS X (.Assign [.Attribute o f pos'] e pos) (sFld K ta tv f) := h ▸ ps_fld ha hv hs
section
variable {name : Str} {T id : String} {r : V → List V → Hp → VK → Prop} {to : TE}
theorem q_bm0 (pa : PlainAttrs T) (slot : Slot T name id) (hty : typeOf (.builtin id) = pure (.type "method_descriptor")) (hm : MtR X id r) (ho : PE X o to)
    (hbase : attributeBase o name X.env (eval o X.env) = eval o X.env := by rfl) (hline : (apos.endLine == cpos.line) = true := by rfl) (h : X.K = K := by rfl) : PE X (.Call (.Attribute o name apos) [] [] cpos) (tBM0 K T r to) := h ▸ pe_bm0 pa slot hty hm ho hbase hline
theorem q_bm (pa : PlainAttrs T) (slot : Slot T name id) (hty : typeOf (.builtin id) = pure (.type "method_descriptor")) (hm : MtR X id r) (ho : PE X o to) (ha : PA X (e :: es) t)
    (hbase : attributeBase o name X.env (eval o X.env) = eval o X.env := by rfl)
    (hfew : ((backTo cpos (starEach (e :: es) X.env)).all (fun x => !x.1) && (backToKw cpos (keywordEach [] X.env)).all (fun x => x.1.isSome)
      && decide ((e :: es).length + ([] : List Keyword).length + (if ([] : List Keyword).isEmpty then 0 else 1) < 30)) = true := by rfl)
    (hline : (apos.endLine == cpos.line) = true := by rfl) (hs : starEach (e :: es) X.env = (false, eval e X.env) :: starEach es X.env := by rfl) (hplain : (backTo cpos (starEach es X.env)).any (·.1) = false := by rfl) (h : X.K = K := by rfl) :
    PE X (.Call (.Attribute o name apos) (e :: es) [] cpos) (tBM K T r to t) := h ▸ pe_bm pa slot hty hm ho ha hbase hfew hline hs hplain
end
theorem m_append : MtR X "list.append" rAppend := mt_append
def dJoin (K : PySem.W.Frag) : V → List V → Hp → VK → Prop := fun x xs H Q => ∃ a p, ∃ ys : List Str, x = .str a ∧ xs = [.ref p] ∧ (SqL K H p (ys.map V.str) ∨ SqT K H p (ys.map V.str)) ∧ (ys.map (·.length)).sum + ys.length * a.length ≤ 16777216 ∧ Q (.str (Txt.join a ys)) H
theorem m_join (h : X.K = K := by rfl) : MtR X "str.join" (dJoin K) := h ▸ mt_join
def dWords : V → List V → Hp → VK → Prop := fun x xs H Q => ∃ a, x = .str a ∧ xs = [] ∧ a.length + 2 ≤ sizeLine ∧ ∀ p, H p = none → Q (.ref p) (upd H p (.lst ((Txt.words a).map V.str)))
theorem m_words : MtR X "str.split" dWords := mt_words
def dSplit : V → List V → Hp → VK → Prop := fun x xs H Q => ∃ a b, x = .str a ∧ xs = [.str b] ∧ (b.length == 0) = false ∧ a.length + 2 ≤ sizeLine ∧ ∀ p, H p = none → Q (.ref p) (upd H p (.lst ((Txt.split a b).map V.str)))
end
section
variable {K : PySem.W.Frag} {H : Hp} {Q : VK} {a b : Str} {p : Addr} {ys : List Str}
theorem g_join (z1 : SqL K H p (ys.map V.str) ∨ SqT K H p (ys.map V.str)) (z2 : (ys.map (·.length)).sum + ys.length * a.length ≤ 16777216) (h : Q (.str (Txt.join a ys)) H) : dJoin K (.str a) [.ref p] H Q := ⟨a, p, ys, rfl, rfl, z1, z2, h⟩
theorem g_words (z : a.length + 2 ≤ sizeLine) (h : ∀ p, H p = none → Q (.ref p) (upd H p (.lst ((Txt.words a).map V.str)))) : dWords (.str a) [] H Q := ⟨a, rfl, rfl, z, h⟩
theorem g_split (z1 : (b.length == 0) = false) (z : a.length + 2 ≤ sizeLine) (h : ∀ p, H p = none → Q (.ref p) (upd H p (.lst ((Txt.split a b).map V.str)))) : dSplit (.str a) [.str b] H Q := ⟨a, b, rfl, rfl, z1, z, h⟩
theorem g_start {t : TS} {D : Ends} {σ σ' : L2.St} {H : Hp} (e : σ = σ') (h : t D σ' H) : t D σ H := e ▸ h
end
/-- what comes behind, once for all: R is found where it is used -/
theorem g_all {α : Type} {R : α → Prop} {G : Prop} (main : (∀ c, R c) → G) (rest : ∀ c, R c) : G := main rest
theorem g_allW {α : Type} {W R : α → Prop} {G : Prop} (main : (∀ c, W c → R c) → G) (rest : ∀ c, W c → R c) : G := main rest
theorem hp_same {H H' : Hp} {a : Addr} {o : HO} (s : Same H H') (e : H a = some o) : H' a = some o := s a o e
theorem hp_sx {W : List Addr} {H H' : Hp} {a : Addr} {o : HO} (s : Sx W H H') (n : a ∉ W) (e : H a = some o) : H' a = some o := s a o n e
theorem al {n : Nat} {B : Prop} (h : B) (z : Nat.ble n 16777216 = true := by rfl) : n ≤ sizeLine ∧ B := ⟨by rw [sizeLine_eq]; exact Nat.le_of_ble_eq_true z, h⟩
theorem inV_str {t : Str} {xs : List Str} : inV (.str t) (xs.map V.str) = decide (t ∈ xs) := by
  induction xs with
  | nil => rfl
  | cons x r ih =>
    have e : inV (.str t) ((x :: r).map V.str) = (eqV (.str x) (.str t) || inV (.str t) (r.map V.str)) := rfl
    rw [e, ih]
    have e2 : eqV (.str x) (.str t) = decide (t = x) := by
      show (x == t) = decide (t = x)
      by_cases h : x = t
      · subst h; simp
      · rw [decide_eq_false (fun z => h z.symm)]; simpa using h
    rw [e2, Bool.eq_iff_iff]
    simp
theorem flat_strs (xs : List Str) : (xs.map V.str).all flatV = true := by simp [flatV]
theorem flat_ints (xs : List Int) : (xs.map V.int).all flatV = true := by simp [flatV]
theorem atI_of {α : Type} {xs : List α} {i : Nat} {v : α} (h : xs[i]? = some v) : atI xs (i : Int) = some v := by
  have hl : i < xs.length := (List.getElem?_eq_some_iff.mp h).1
  unfold atI ixN
  rw [if_pos (Int.natCast_nonneg i), if_pos (by omega)]
  show xs[(i : Int).toNat]? = some v
  rw [Int.toNat_natCast]; exact h
theorem atI_map {α : Type} {xs : List α} {f : α → V} {i : Nat} {v : α} (h : xs[i]? = some v) : atI (xs.map f) (i : Int) = some (f v) := atI_of (by rw [List.getElem?_map, h]; rfl)
theorem sqL_same {K : PySem.W.Frag} {H H' : Hp} {a : Addr} {xs : List V} (h : SqL K H a xs) (e : Same H H') : SqL K H' a xs := Same.seq e h
section
variable {K : PySem.W.Frag} {H : Hp} {Q : VK} {p : Addr}
theorem g_ip {f : Int → Int → Int} {i j : Int} (h : Q (.int (f i j)) H) : ipI f (.int i) (.int j) H Q := ⟨i, j, rfl, rfl, h⟩
theorem g_rU {g : Int → V} {i : Int} (h : Q (g i) H) : rU g (.int i) H Q := ⟨i, rfl, h⟩
theorem g_inLs {t : Str} {ns : List Str} (z1 : SqL K H p (ns.map V.str) ∨ SqT K H p (ns.map V.str)) (h : Q (.bl (decide (t ∈ ns))) H) : dIn K (.str t) (.ref p) H Q := ⟨_, z1, rfl, flat_strs ns, by rw [inV_str]; exact h⟩
theorem g_ninLs {t : Str} {ns : List Str} (z1 : SqL K H p (ns.map V.str) ∨ SqT K H p (ns.map V.str)) (h : Q (.bl (!decide (t ∈ ns))) H) : dNotIn K (.str t) (.ref p) H Q := ⟨_, z1, rfl, flat_strs ns, by rw [inV_str]; exact h⟩
end
section
variable {K : PySem.W.Frag} {H : Hp} {p C dx : Addr} {fs : List (Str × V)} {f : Str} {v : V}
theorem g_gf {Z : V → Prop} (z1 : H p = some (.ins C dx fs)) (z2 : Cls K C) (z3 : NoAttr K C f) (z4 : fs.lookup f = some v) (h : Z v) : ∃ a C dx fs v, V.ref p = .ref a ∧ H a = some (.ins C dx fs) ∧ Cls K C ∧ NoAttr K C f ∧ fs.lookup f = some v ∧ Z v := ⟨p, C, dx, fs, v, rfl, z1, z2, z3, z4, h⟩
theorem g_sf {Z : Hp → Prop} (z1 : H p = some (.ins C dx fs)) (z2 : Cls K C) (z3 : NoAttr K C f) (z4 : fs.length < 1000) (h : Z (upd H p (.ins C dx (putF f v fs)))) :
    ∃ a C dx fs, V.ref p = .ref a ∧ H a = some (.ins C dx fs) ∧ Cls K C ∧ NoAttr K C f ∧ fs.length < 1000 ∧ Z (upd H a (.ins C dx (putF f v fs))) := ⟨p, C, dx, fs, rfl, z1, z2, z3, z4, h⟩
end
/-! ### data: lists of texts, of ints compared -/
section
variable {K : PySem.W.Frag} {H : Hp} {Q : VK} {p q : Addr}
theorem sok_asc {x : Str} (h : ∀ c ∈ x.cps.toList, c ≤ 127) : PyData.strOk x = true := by
  unfold PyData.strOk
  rw [← Array.all_toList, List.all_eq_true]
  intro c hc
  have := h c hc
  exact decide_eq_true (by omega)
end
theorem iteNT {A B : Prop} (h : B) : if (!true) = true then A else B := iteF h
theorem iteNF {A B : Prop} (h : A) : if (!false) = true then A else B := iteT h
theorem log2_of {n k : Nat} (h0 : 0 < k) (h : n < 2 ^ k) : n.log2 < k := by
  by_cases z : n = 0
  · subst z; simpa using h0
  · exact (Nat.log2_lt z).mpr h
theorem log2_1000 {d : Int} (h0 : 0 ≤ d) (h1 : d < 2 ^ 120) : d.natAbs.log2 < 1920 := Nat.lt_trans (log2_of (k := 120) (by decide) (by omega)) (by decide)
end NL
/-! own exception classes over any built-in one (ValueError, LookupError, RuntimeError) -/
namespace NL
open PySem L2
/-- own classes, then a given rest -/
def refsB (tl : List Value) : List Value → Bool
  | .ref _ :: r => refsB tl r
  | l => decide (l = tl)
theorem refsB_cut {tl : List Value} : ∀ {l : List Value}, refsB tl l = true → l = tl ∨ ∃ c r, l = .ref c :: r ∧ refsB tl r = true
  | [], h => .inl (of_decide_eq_true h)
  | a :: r, h => by
    cases a with
    | ref c => exact .inr ⟨c, r, rfl, h⟩
    | _ => exact .inl (of_decide_eq_true h)
theorem refsB_has {tl : List Value} (n : String) : ∀ {l : List Value}, refsB tl l = true → l.contains (.type n) = tl.contains (.type n) := fun {l} => by
  induction l with
  | nil => intro h; rcases refsB_cut h with e | ⟨_, _, e, _⟩
           · rw [← e]
           · cases e
  | cons a r ih =>
    intro h
    rcases refsB_cut h with e | ⟨c, q, e, h2⟩
    · rw [← e]
    · cases e
      rw [List.contains_cons, ih h2] <;> rfl
theorem refsB_goes {tl : List Value} {v : Value} (p : PySem.refuseLoop v "__setattr__" tl = pure ()) : ∀ {l : List Value}, refsB tl l = true → PySem.refuseLoop v "__setattr__" l = pure () := fun {l} => by
  induction l with
  | nil => intro h; rcases refsB_cut h with e | ⟨_, _, e, _⟩
           · rw [e]; exact p
           · cases e
  | cons a r ih =>
    intro h
    rcases refsB_cut h with e | ⟨c, q, e, h2⟩
    · rw [e]; exact p
    · cases e
      rw [PySem.refuseLoop_ref]
      exact ih h2
/-- what is known of a built-in exception class that an own one comes from -/
def BaseT (nw : String) (tl : List Value) : Prop := ∃ B ini, ExcBaseFacts B nw ini tl ∧ (∀ v : Value, PySem.refuseLoop v "__setattr__" tl = pure ()) ∧ tl.contains (.type "object") = true
theorem baseT_val : BaseT "ValueError.__new__" [.type "ValueError", .type "Exception", .type "BaseException", .type "object"] := ⟨_, _, F.excBase_ValueError, F.store_ValueError.passes, by decide +kernel⟩
theorem baseT_look : BaseT "LookupError.__new__" [.type "LookupError", .type "Exception", .type "BaseException", .type "object"] := ⟨_, _, F.excBase_LookupError, F.store_LookupError.passes, by decide +kernel⟩
theorem baseT_run : BaseT "RuntimeError.__new__" [.type "RuntimeError", .type "Exception", .type "BaseException", .type "object"] := ⟨_, _, F.excBase_RuntimeError, F.store_RuntimeError.passes, by decide +kernel⟩
/-- an own exception class with a dict -/
structure OexG (K : PySem.W.Frag) (C : Addr) : Prop where
  cls : ∃ nm q N bs bm sn sub ab col dd k0 k1 k2 k3 k5 nw tl, K.lookup C = some (excClassObj nm q C N bs bm true sn sub ab col dd k0 k1 k2 k3 k5 nw) ∧ refsB tl bm = true ∧ BaseT nw tl
  sa : PySem.W.findIn K (.ref C) "__setattr__" = some (some (.builtin "object.__setattr__"))
  exC : PySem.W.subIn K (.ref C) (.type "BaseException") = some true
  tyC : PySem.W.typeIn K (.ref C) = some (.type "type")
  kC : PySem.W.keepIn K (.ref C) = true
section
open Builtin Builtin.ObjectAttr
variable {P : Program} {w : World} {A : Around} {R : Result → Shared → Prop} {h : Heap} {gs : Array GenState} {dr : Drawn} {tk : Nat} {os : OsState}
/-- the first field of an exception -/
theorem osa_first {K : PySem.W.Frag} {f : Str} {ft : Tok} {u : Value} {x C : Addr} {fv : Array Value} {cd : ClassData} {tl : List Value} (kin : K.In h) (hx : h.get? x = some { cls := .ref C, data := .fields fv }) (hc : PySem.W.clsIn K C = some cd)
    (hm : refsB tl cd.mro = true) (p : PySem.refuseLoop (.ref x) "__setattr__" tl = pure ()) (ho : tl.contains (.type "object") = true) (hd : cd.hasDict = true) (na : PySem.W.findIn K (.ref C) f = some none)
    (k : ∀ h' t' dx, (∀ b o, b ≠ x → h.get? b = some o → h'.get? b = some o) → h.objs.size ≤ dx → dx ≠ x → h'.get? x = some { cls := .ref C, dict := some dx, data := .fields fv } → h'.Ns1 dx (fun y => if y = f then some u else none) → R (.ok (.ret .none)) ⟨h', gs, dr, t', os⟩) :
    codeAny (model P w) A (.call (.builtin "object.__setattr__") ⟨[.ref x, .str f ft, u], []⟩) R ⟨h, gs, dr, tk, os⟩ := by
  have J : PySem.W.InstAt h x { cls := .ref C, data := .fields fv } C none := ⟨hx, rfl, rfl, trivial⟩
  have O := F.store_object
  have hob : cd.mro.contains (.type "object") = true := (refsB_has "object" hm).trans ho
  have hne : cd.mro.isEmpty = false := by
    cases q : cd.mro with
    | nil => rw [q] at hob; cases hob
    | cons => rfl
  have far : x ≠ h.objs.size := Nat.ne_of_lt (Heap.lt_size hx)
  have isO : PySem.W.Looks (model P w) h (isInstance (.ref x) (.type "object")) true := J.type.andThen (PySem.W.looks_mroIn kin (by unfold PySem.W.mroIn; rw [hc, Option.bind_some, hne, if_neg Bool.false_ne_true, hob]))
  refine codeAny_call_builtin O.slot.plain O.entry (@PySem.W.check_slot (model P w) _ _ ⟨h, gs, dr, tk, os⟩ "object.__setattr__" "object" "__setattr__" (.ref x) [.str f ft, u] [] _ O.kind O.split isO (O.args (.ref x) (.str f ft) u) ?_)
  have m1 : PySem.W.Looks (model P w) h (mroOf (.ref C)) cd.mro := (PySem.W.looks_clsIn kin hc).andThen .now
  have m2 : PySem.W.Looks (model P w) h (storeTaker? none) none := .now
  have m3 : PySem.W.Looks (model P w) h (classData C) cd := PySem.W.looks_clsIn kin hc
  rw [PySem.W.osa_eq, refuse_eq]
  refine wpAny_bind (wpAny_bind (J.type.at (wpAny_bind (m1.at ?_))))
  rw [refsB_goes p hm]
  refine wpAny_pure (wpAny_bind (J.type.at (wpAny_bind ((PySem.W.looks_findIn kin na).at (wpAny_bind (m2.at ?_))))))
  show wpAny _ _ (storeInOwnDict (.ref x) (.ref C) (.str f ft) f u false) _ _ _
  obtain ⟨_, _, _, _, _, b, _, _, _, _, _⟩ := cd
  obtain rfl : b = true := hd
  unfold storeInOwnDict ownDictForStores
  repeat (first | with_reducible refine PySem.HandSPX.store_in_new ?_ ?_ | with_reducible refine wpAny_loadPart_at hx ?_ | with_reducible refine m3.at ?_ | wp_step)
  · exact ⟨_, #[], _, (Heap.get?_update_ne _ _ _ _ far.symm).trans (Heap.get?_push_at rfl rfl), rfl, (fun e z => absurd z (by simp)), fun _ => rfl⟩
  · intro h' t' n' sb
    have px : (h.push { cls := .type "dict", data := .dict #[] }).get? x = some { cls := .ref C, data := .fields fv } := Heap.get?_push_of_some _ hx
    exact k h' t' h.objs.size (fun b o hb e => (sb.2 b (Nat.ne_of_lt (Heap.lt_size e))).trans ((Heap.get?_update_ne _ _ _ _ hb).trans (Heap.get?_push_of_some _ e))) (Nat.le_refl _) far.symm ((sb.2 x far).trans (Heap.get?_update_self _ px rfl)) n'
end
section
variable {X : Cx} {pins : List (Addr × Obj)} {σ : L2.St} {H : Hp} {s : Shared} {a C : Addr} {f : Str} {y : V} {u : Value} {Q : Unit → Shared → Prop} {E : Value → Shared → Prop} {A : Around}
theorem clsIn_exc {K : PySem.W.Frag} {nm q : Str} {C N : Addr} {bs bm sub : List Value} {sn : List Str} {ab : Bool} {col : Option Bool} {dd : Option Addr} {k0 k1 k2 k3 k5 : Option Value} {nw : String} (e : K.lookup C = some (excClassObj nm q C N bs bm true sn sub ab col dd k0 k1 k2 k3 k5 nw)) :
    ∃ cd, PySem.W.clsIn K C = some cd ∧ cd.mro = .ref C :: bm ∧ cd.hasDict = true := by
  refine ⟨_, by unfold PySem.W.clsIn; rw [e] <;> rfl, rfl, rfl⟩
/-- self.f = y, the first one -/
theorem ost_first (T : OexG X.K C) (I : Inv X pins σ H s) (e : H a = some (exo a C none)) (hno : PySem.W.findIn X.K (.ref C) f = some none) (ry : RelV y u)
    (k : ∀ dx s', H dx = none → dx ≠ a → Inv X pins σ (upd (upd H dx (exd dx [(f, y)])) a (exo a C (some dx))) s' → Q () s') : wpAny (model X.prog X.w) A (setAttr (.ref a) f u) Q E s := by
  obtain ⟨nm, q, N, bs, bm, sn, sub, ab, col, dd, k0, k1, k2, k3, k5, nw, tl, hC, hbm, B, ini, FB, hp, hob⟩ := T.cls
  obtain ⟨cd, hcd, hmro, hdict⟩ := clsIn_exc hC
  obtain ⟨t1, at1⟩ := exo_at I.hok e
  obtain ⟨hh, gs, dr, tk, os⟩ := s
  refine PySem.W.set_plain I.kIn (ox := { cls := .ref C, dict := none, data := .fields #[.ref t1, .none, .none, .none, .bool false, .none] }) (od := none) ⟨at1, rfl, rfl, trivial⟩ T.sa ?_
  refine osa_first (tl := tl) I.kIn at1 hcd (by rw [hmro]; exact hbm) (hp _) hob hdict hno fun h' t' dx kp far ne hx hn => ?_
  have nD : H dx = none := I.hok.fresh far
  have offD : ∀ {b : Addr} {o : Obj}, hh.get? b = some o → b ≠ dx := fun z => Nat.ne_of_lt (Nat.lt_of_lt_of_le (Heap.lt_size z) far)
  have offA : ∀ {b : Addr}, H b = none → b ≠ a := fun n z => by rw [z, e] at n; cases n
  have U1 : Un X.fs [] H (upd (upd H dx (exd dx [(f, y)])) a (exo a C (some dx))) hh h' := {
    keep := fun b o z n _ _ => kp b o (offA n) z
    slot := fun b o z n _ _ => ⟨o.slots, kp b o (offA n) z⟩
    free := fun b o z n _ => (upd_ne (offA n)).trans ((upd_ne (offD z)).trans n)
    there := fun b o z _ => by
      by_cases ba : b = a
      · rw [ba]; exact ⟨_, hx⟩
      · exact ⟨_, kp b o ba z⟩
    tups := fun b xs z => (upd_ne (at_ne e z exo_tup)).trans ((upd_ne (ne_of_none z nD)).trans z)
    frzs := fun b o v z => (upd_ne (at_ne e z exo_frz)).trans ((upd_ne (ne_of_none z nD)).trans z)
    tbls := fun b ps z => ⟨#[], by rw [upd_ne (at_ne e z exo_tbl), upd_ne (ne_of_none z nD), z, Array.append_empty]⟩ }
  refine k dx _ nD ne (I.un (t' := t') U1 fun b o z => ?_)
  by_cases ba : b = a
  · rw [ba, upd_same] at z
    cases z
    rw [ba]
    exact exo_ok hx
  rw [upd_ne ba] at z
  by_cases bd : b = dx
  · rw [bd, upd_same] at z
    cases z
    rw [bd]
    exact exd_ok hn (relO_put (fs := []) ry fun _ => True.intro)
  rw [upd_ne bd] at z
  refine (I.hok b o z).stay (fun c v hc w => kp c v ?_ w) (fun c hc => (upd_ne (at_ne e hc exo_own)).trans ((upd_ne (ne_of_none hc nD)).trans hc)) fun c xs hc => (upd_ne (at_ne e hc exo_tup)).trans ((upd_ne (ne_of_none hc nD)).trans hc)
  rcases hc with hc | hc
  · rw [hc]; exact ba
  · exact at_ne e hc exo_own
end
/-- self.f = e, the first field of an exception -/
def tOf (K : PySem.W.Frag) (f : Str) (to te : TE) : TS := fun D σ H => te σ H fun y H1 => to σ H1 fun x H2 => ∃ a C : Addr, x = .ref a ∧ OexG K C ∧ PySem.W.findIn K (.ref C) f = some none ∧ H2 a = some (exo a C none) ∧
  ∀ dx, H2 dx = none → dx ≠ a → D.nx σ (upd (upd H2 dx (exd dx [(f, y)])) a (exo a C (some dx)))
section
variable {X : Cx} {o e : Expr} {es : List Expr} {to te : TE} {ta : TA} {f : Str} {p p' pos : Pos}
theorem ps_of (ho : PE X o to) (he : PE X e te) (hs : swapsWith e (some (.Attribute o f p')) pos.line X.env = pure false := by rfl) : PS X (.Assign [.Attribute o f p'] e pos) (tOf X.K f to te) := by
  refine ⟨fun pins s σ H D I h => ?_⟩
  refine plainObj_wpAny_Assign_Attribute (thn (he.run pins s σ H _ I h) fun v s1 ⟨y, H1, I1, r1, q1⟩ => thn (ho.run pins s1 σ H1 _ I1 q1) fun u s2 ⟨x, H2, I2, r2, a, C, ex, T, no, ea, q⟩ => ?_) hs
  subst ex
  obtain rfl : u = .ref a := r2
  exact ost_first T I2 ea no r1 fun dx s' n ne J => ⟨σ, _, J, q dx n ne⟩
/-- C(e, ..) for an own exception class C -/
theorem pmk_g {CX : CXT} {x : Str} {C fI : Addr} {k : Nat} {fd : FuncData} {ps : List Str} {sp : Sp} (T : OexG X.K C) (iC : PySem.W.findIn X.K (.ref C) "__init__" = some (some (.ref fI))) (tI : PySem.W.typeIn X.K (.ref fI) = some (.type "function"))
    (F1 : FnOk X.prog X.w X.K X.mg X.base CX k fI fd ps sp) (hr : Room (k + 1) X.A) (hb : Binds X.K fd ps []) (hx : Passes CX X (fun _ _ _ => False)) (hg : Gl X x) (hm : X.mg x = some (.ref C)) (ha : PA X (e :: es) ta)
    (hdb : (x == ("__debug__" : Str)) = false := by decide) (he : starEach (e :: es) X.env = (false, eval e X.env) :: starEach es X.env := by rfl) (hpl : (backTo pos (starEach es X.env)).any (·.1) = false := by rfl) :
    PMk X (.Call (.Name x p) (e :: es) [] pos) (tMkO C sp [] ta) := by
  intro pins s σ H Q I h
  obtain ⟨nm, q, N, bs, bm, sn, sub, ab, col, dd, k0, k1, k2, k3, k5, nw, tl, hC, hbm, B, ini, FB, hp, hob⟩ := T.cls
  refine wpAny_Call_Name_kw (ld_glob I hg hm ?_ hdb)
  refine PySem.W.callWith_K (h₀ := X.base) I.ok.mod.kin T.kC (thn (ha.run pos pins s σ H _ I h) fun us s1 ⟨vs, H1, I1, r1, hz, q1⟩ => ⟨I1.kIn, ?_⟩) he hpl
  show wpAny _ _ (call (.ref C) us) _ _ _
  obtain ⟨hh, gs, dr, tk, os⟩ := s1
  generalize hA : hh.objs.size + 1 = A1
  have le : hh.objs.size ≤ A1 := by omega
  have nA : H1 A1 = none := I1.hok.fresh le
  have hq := q1 A1 nA
  have kk : ∀ b o, hh.get? b = some o → ((hh.push (PySem.W.kdv_tup us)).push (PySem.HandSPX.excO C hh.objs.size)).get? b = some o := fun b o z => Heap.get?_push_of_some _ (Heap.get?_push_of_some _ z)
  have at1 : ((hh.push (PySem.W.kdv_tup us)).push (PySem.HandSPX.excO C hh.objs.size)).get? A1 = some (PySem.HandSPX.excO C hh.objs.size) := by subst hA; heap_get
  have I2 : Inv X pins σ (upd H1 A1 (exo A1 C none)) ⟨(hh.push (PySem.W.kdv_tup us)).push (PySem.HandSPX.excO C hh.objs.size), gs, dr, tk, os⟩ := I1.laid (t' := tk) kk le (exo_ok at1)
  have r2 : Vals (V.ref A1 :: (vs ++ [])) (Value.ref A1 :: us) := .cons rfl (by rw [List.append_nil]; exact r1)
  have hl : (Value.ref A1 :: us).length = ps.length := r2.length.symm.trans (F1.len _ _ _ _ hq)
  have hus : us.length ≤ sizeLine := by
    have := Paired.length r1
    rw [← this, sizeLine_eq]
    omega
  have hb2 := hb _ (Value.ref A1 :: us) I2.kIn (by rw [List.append_nil]; exact hl)
  rw [List.append_nil] at hb2
  refine wpAny_call (PySem.HandSPX.call_own FB (fun n => refsB_has n hbm) (I1.kIn _ _ hC) (PySem.W.looks_findIn I1.kIn iC) (fun z => PySem.W.bind_fn I1.kIn z tI) hus ?_)
  rw [hA]
  refine codeAny_mono (F1.run _ X.stack _ _ ⟨Value.ref A1 :: us, []⟩ (Value.ref A1 :: us) _ _ (fun _ _ _ => False) (hr.make C us []) (I2.env0.make C us []) hb2 r2 hq) fun r s' z => ?_
  cases r with
  | error er => exact hx pins σ _ _ er s' I2 z
  | ok fl =>
    cases fl with
    | ret v =>
      obtain ⟨v', H2, o2, b2, un2, ok2, rv, ev, d, fs, ea, ed, n1, q2⟩ := z
      subst ev
      obtain ⟨h2, g2, d2, t2, o3⟩ := s'
      exact ⟨rv, mk_end (raises_own T.exC T.tyC) I1 le kk un2 ok2 o2 b2 ea ed n1 q2⟩
    | _ => exact z.elim
end
/-- asked of the written part -/
def oexgB (K : PySem.W.Frag) (C : Addr) : Bool := (match K.lookup C with
  | some ⟨.type t, _, .cls cd, sl⟩ => decide (t = "type") && (match cd.mro, sl.toList with
    | .ref c :: bm, [_, _, _, _, some (.builtin n), _] => decide (c = C) && (!cd.hasDel && (cd.hasDict && ((decide (n = "ValueError.__new__") && refsB [.type "ValueError", .type "Exception", .type "BaseException", .type "object"] bm) ||
      ((decide (n = "LookupError.__new__") && refsB [.type "LookupError", .type "Exception", .type "BaseException", .type "object"] bm) || (decide (n = "RuntimeError.__new__") && refsB [.type "RuntimeError", .type "Exception", .type "BaseException", .type "object"] bm)))))
    | _, _ => false)
  | _ => false) && (decide (PySem.W.findIn K (.ref C) "__setattr__" = some (some (.builtin "object.__setattr__"))) && (decide (PySem.W.subIn K (.ref C) (.type "BaseException") = some true) && (decide (PySem.W.typeIn K (.ref C) = some (.type "type")) && PySem.W.keepIn K (.ref C))))
theorem oexgB_ok {K : PySem.W.Frag} {C : Addr} (h : oexgB K C = true) : OexG K C := by
  unfold oexgB at h
  simp only [Bool.and_eq_true, decide_eq_true_eq] at h
  obtain ⟨h0, h1, h2, h3, h4⟩ := h
  refine ⟨?_, h1, h2, h3, h4⟩
  split at h0
  · rename_i t dd cd sl ho
    simp only [Bool.and_eq_true, decide_eq_true_eq] at h0
    obtain ⟨rfl, h0⟩ := h0
    split at h0
    · rename_i c bm k0 k1 k2 k3 n k5 hm hs
      simp only [Bool.and_eq_true, Bool.or_eq_true, decide_eq_true_eq, Bool.not_eq_true'] at h0
      obtain ⟨rfl, del, hd, hr⟩ := h0
      have key : ∃ tl, refsB tl bm = true ∧ BaseT n tl := by
        rcases hr with ⟨rfl, q⟩ | ⟨rfl, q⟩ | ⟨rfl, q⟩
        · exact ⟨_, q, baseT_val⟩
        · exact ⟨_, q, baseT_look⟩
        · exact ⟨_, q, baseT_run⟩
      obtain ⟨tl, q, bt⟩ := key
      obtain ⟨nm, bs, mro, ns, qn, hd', sn, sub, ab, col, del'⟩ := cd
      dsimp only at hm del hd
      subst hm del hd
      have hsl : sl = #[k0, k1, k2, k3, some (.builtin n), k5] := by
        obtain ⟨l⟩ := sl
        simp only at hs
        rw [hs]
      subst hsl
      exact ⟨nm, qn, ns, bs, bm, sn, sub, ab, col, dd, k0, k1, k2, k3, k5, n, tl, ho, q, bt⟩
    · cases h0
  · cases h0
end NL
namespace NL
open PySem L2
/-! ### own exceptions of one field -/
/-- what __init__(self, f): self.f = f does to the exception that is being made -/
def sp_xi (C : Addr) (f : Str) : Sp := fun vs H Q _ => ∃ (a : Addr) (v : V), vs = [.ref a, v] ∧ H a = some (exo a C none) ∧
  ∀ dx, H dx = none → dx ≠ a → Q .non (upd (upd H dx (exd dx [(f, v)])) a (exo a C (some dx)))
/-- what is known of an own exception class x with the field f -/
structure XC (P : Program) (w : World) (K : PySem.W.Frag) (mg : Str → Option Value) (base : Heap) (k : Nat) (x f : Str) (C : Addr) : Prop where
  g : mg x = some (.ref C)
  o : OexG K C
  no : PySem.W.findIn K (.ref C) f = some none
  fn : ∃ (fI : Addr) (fd : FuncData) (ps : List Str), PySem.W.findIn K (.ref C) "__init__" = some (some (.ref fI)) ∧ PySem.W.typeIn K (.ref fI) = some (.type "function") ∧ Binds K fd ps [] ∧ FnOk P w K mg base (L2.CX P w) k fI fd ps (sp_xi C f)
theorem del_upd {H : Hp} {a d : Addr} {o1 o2 o3 o4 : HO} (ha : H a = none) (hd : d ≠ a) : upd (del (upd (upd (upd H a o1) d o2) a o3) a) d o4 = upd H d o4 := by
  funext b
  by_cases e : b = d
  · subst e; rw [upd_same, upd_same]
  · rw [upd_ne e, upd_ne e]
    by_cases e2 : b = a
    · subst e2; rw [del_same, ha]
    · rw [del_ne e2, upd_ne e2, upd_ne e, upd_ne e2]
section
variable {X : Cx} {k : Nat} {x f : Str} {C : Addr} {e : Expr} {es : List Expr} {ta : TA} {p pos pos2 : Pos}
def tMkX (C : Addr) (f : Str) (ta : TA) : L2.St → Hp → XK → Prop := fun σ H Q => ta σ H fun vs H1 => ∃ v, vs = [v] ∧ ∀ d, H1 d = none → Q (.ref C) (some d) (upd H1 d (.xd [(f, v)]))
theorem pmk_x (T : XC X.prog X.w X.K X.mg X.base k x f C) (hr : Room (k + 1) X.A) (ha : PA X (e :: es) ta) (hg : Gl X x := by rfl) (hdb : (x == ("__debug__" : Str)) = false := by decide)
    (he : starEach (e :: es) X.env = (false, eval e X.env) :: starEach es X.env := by rfl) (hpl : (backTo pos (starEach es X.env)).any (·.1) = false := by rfl) :
    PMk X (.Call (.Name x p) (e :: es) [] pos) (tMkX C f ta) := by
  obtain ⟨fI, fd, ps, iC, tI, hb, F1⟩ := T.fn
  have ha' : PA X (e :: es) (fun σ H Q => ta σ H fun vs H1 => Q vs H1) := ha
  intro pins s σ H Q I h
  have base := pmk_g (p := p) T.o iC tI F1 hr hb passL hg T.g (ta := fun σ H Q => ∃ (R : List V → Hp → Prop), ta σ H R ∧ ∀ vs H', R vs H' → Q vs H')
    (⟨fun pos pins s σ H Q I q => by
      obtain ⟨R, h1, h2⟩ := q
      exact thn (ha.run pos pins s σ H R I h1) fun us s1 ⟨vs, H1, I1, r, q1⟩ => ⟨vs, H1, I1, r, h2 vs H1 q1⟩⟩) hdb he hpl
  refine base pins s σ H Q I ⟨_, h, fun vs H1 hv => ?_⟩
  obtain ⟨v, rfl, hv⟩ := hv
  refine ⟨by show 1 ≤ 1000; decide, fun a ha1 => ⟨a, v, rfl, upd_same, fun dx hdx hne => ⟨rfl, dx, [(f, v)], upd_same, ?_, ?_, ?_⟩⟩⟩
  · rw [upd_ne hne, upd_same]
  · have := hdx
    rw [upd_ne hne] at this
    exact this
  · rw [del_upd ha1 hne]
    rw [upd_ne hne] at hdx
    exact hv dx hdx
/-- raise x(e) -/
def tRaiseX (C : Addr) (f : Str) (W : WX) (ta : TA) : TS := fun _ σ H => ta σ H fun vs H1 => ∃ v, vs = [v] ∧ ∀ d, H1 d = none → W (.ref C) (some d) σ (upd H1 d (.xd [(f, v)]))
theorem q_raise {W : WX} (T : XC X.prog X.w X.K X.mg X.base k x f C) (tk : Takes X W) (hr : Room (k + 1) X.A) (ha : PA X (e :: es) ta) (hc : X.calm = true := by rfl) (hg : Gl X x := by rfl) (hdb : (x == ("__debug__" : Str)) = false := by decide)
    (he : starEach (e :: es) X.env = (false, eval e X.env) :: starEach es X.env := by rfl) (hpl : (backTo pos (starEach es X.env)).any (·.1) = false := by rfl) :
    PS X (.Raise (some (.Call (.Name x p) (e :: es) [] pos)) none pos2) (tRaiseX C f W ta) := ps_raise hc tk (pmk_x T hr ha hg hdb he hpl)
theorem g_raise {C : Addr} {f : Str} {W : WX} {ta : TA} {D : Ends} {σ : L2.St} {H : Hp} (h : ta σ H fun vs H1 => ∃ v, vs = [v] ∧ ∀ d, H1 d = none → W (.ref C) (some d) σ (upd H1 d (.xd [(f, v)]))) : tRaiseX C f W ta D σ H := h
theorem g_raised {v : V} {Z : V → Prop} (h : Z v) : ∃ u, [v] = [u] ∧ Z u := ⟨v, rfl, h⟩
end
/-! ### in an except suite: isinstance of the exception that is held, its field -/
/-! ### an own class made, its methods called; what is raised goes to the taker -/
structure MkC (P : Program) (w : World) (K : PySem.W.Frag) (mg : Str → Option Value) (base : Heap) (k : Nat) (x : Str) (C : Addr) (ps : List Str) (sp : Sp) : Prop where
  g : mg x = some (.ref C)
  fn : ∃ (f : Addr) (fd : FuncData), Mk K C f ∧ Binds K fd ps [] ∧ FnOk P w K mg base (L2.CX P w) k f fd ps sp
structure MtC (P : Program) (w : World) (K : PySem.W.Frag) (mg : Str → Option Value) (base : Heap) (k : Nat) (C : Addr) (m : Str) (ps : List Str) (sp : Sp) : Prop where
  c : Cls K C
  fn : ∃ (f : Addr) (fd : FuncData), Meth K C m f ∧ PySem.W.fnIn K f = true ∧ Binds K fd ps [] ∧ FnOk P w K mg base (L2.CX P w) k f fd ps sp
section
variable {X : Cx} {k : Nat} {x m : Str} {C : Addr} {e o : Expr} {es : List Expr} {t : TA} {ta : TE} {p pos apos : Pos} {ps : List Str} {sp : Sp} {W : WX}
def tMakeS (C : Addr) (sp : Sp) (E : L2.St → XK) (t : TA) : TE := fun σ H Q => t σ H fun vs H1 => ∀ x dx, H1 x = none → H1 dx = none → dx ≠ x →
  sp (.ref x :: vs) (upd (upd H1 dx (.own x)) x (.ins C dx [])) (fun v H2 => v = .non ∧ Q (.ref x) H2) (E σ)
theorem run_makeS {f : Addr} {fd : FuncData} {pins : List (Addr × Obj)} {σ : L2.St} {H : Hp} {s : Shared} {Q : VK} {us : List Value} {vs : List V} (M : Mk X.K C f) (F : FnOk X.prog X.w X.K X.mg X.base (L2.CX X.prog X.w) k f fd ps sp) (hr : Room (k + 1) X.A) (hb : Binds X.K fd ps [])
    (tk : Takes X W) (I : Inv X pins σ H s) (r : Vals vs us)
    (h : ∀ x dx, H x = none → H dx = none → dx ≠ x → sp (.ref x :: vs) (upd (upd H dx (.own x)) x (.ins C dx [])) (fun v H2 => v = .non ∧ Q (.ref x) H2) (WE W σ)) :
    wpAny (model X.prog X.w) X.A (call (.ref C) us) (EP X pins σ Q) X.xe s := by
  have hq := h (s.heap.objs.size + 1) s.heap.objs.size (I.hok.fresh (Nat.le_succ _)) (I.hok.fresh (Nat.le_refl _)) (Nat.ne_of_lt (Nat.lt_succ_self _))
  have I2 := Inv.made (C := C) I
  have r2 : Vals (V.ref (s.heap.objs.size + 1) :: vs) (Value.ref (s.heap.objs.size + 1) :: us) := .cons rfl r
  have hl : (Value.ref (s.heap.objs.size + 1) :: us).length = ps.length := by
    have e := r2.length
    rw [F.len _ _ _ _ hq] at e
    exact e.symm
  have hb2 := hb _ (Value.ref (s.heap.objs.size + 1) :: us) I2.kIn (by rw [List.append_nil]; exact hl)
  rw [List.append_nil] at hb2
  refine wpAny_call (make_map (f := f) I.kIn M.makes M.init (beq_iff_eq.mp M.fn) (codeAny_mono (F.run _ X.stack _ _ ⟨Value.ref (s.heap.objs.size + 1) :: us, []⟩ (Value.ref (s.heap.objs.size + 1) :: us) _ _ (WE W σ) (hr.make C us [])
    (I2.env0.make C us []) hb2 r2 hq) fun r s' hq' => ?_))
  cases r with
  | error e => exact passAt tk σ pins _ _ e s' I2 hq'
  | ok fl =>
    cases fl with
    | ret u =>
      obtain ⟨v, H', I3, rv, ev, q3⟩ := I2.after hq'
      subst ev
      exact ⟨rv, ⟨V.ref (s.heap.objs.size + 1), H', I3, rfl, q3⟩⟩
    | next => exact False.elim hq'
    | brk => exact False.elim hq'
    | cont => exact False.elim hq'
theorem q_make (M : MkC X.prog X.w X.K X.mg X.base k x C ps sp) (tk : Takes X W) (hr : Room (k + 1) X.A) (ha : PA X (e :: es) t) (hg : Gl X x := by rfl) (hdb : (x == ("__debug__" : Str)) = false := by decide)
    (he : starEach (e :: es) X.env = (false, eval e X.env) :: starEach es X.env := by rfl) (hpl : (backTo pos (starEach es X.env)).any (·.1) = false := by rfl) :
    PE X (.Call (.Name x p) (e :: es) [] pos) (tMakeS C sp (WE W) t) := by
  obtain ⟨f, fd, M1, hb, F⟩ := M.fn
  refine ⟨fun pins s σ H Q I h => ?_⟩
  refine wpAny_Call_Name_kw (ld_glob I hg M.g ?_ hdb)
  refine PySem.W.callWith_K (h₀ := X.base) I.ok.mod.kin M1.kp (thn (ha.run pos pins s σ H _ I h) fun us s1 ⟨vs, H1, I1, r, q⟩ => ⟨I1.kIn, ?_⟩) he hpl
  exact run_makeS M1 F hr hb tk I1 r q
theorem g_make {C : Addr} {sp : Sp} {E : L2.St → XK} {t : TA} {σ : L2.St} {H : Hp} {Q : VK} (h : t σ H fun vs H1 => ∀ x dx, H1 x = none → H1 dx = none → dx ≠ x →
    sp (.ref x :: vs) (upd (upd H1 dx (.own x)) x (.ins C dx [])) (fun v H2 => v = .non ∧ Q (.ref x) H2) (E σ)) : tMakeS C sp E t σ H Q := h
/-- o.m(..) -/
def tMethS (C : Addr) (m : Str) (sp : Sp) (E : L2.St → XK) (ta : TE) (t : TA) : TE := fun σ H Q => ta σ H fun x H1 => ∃ a dx fs, x = .ref a ∧ H1 a = some (.ins C dx fs) ∧ fs.lookup m = none ∧ t σ H1 fun vs H2 => sp (x :: vs) H2 Q (E σ)
theorem q_meth0 {pl : Sem Bool} (M : MtC X.prog X.w X.K X.mg X.base k C m ps sp) (tk : Takes X W) (hr : Room k X.A) (he : PE X o ta)
    (ht : eval (.Call (.Attribute o m apos) [] [] pos) X.env = (do
      let ov ← eval o X.env
      standAt apos.atName
      let (f, first) ← holding [ov] (getMethod ov m pl)
      callWith pos f first (backTo pos (starEach [] X.env)) (backToKw pos (keywordEach [] X.env))) := by rfl) :
    PE X (.Call (.Attribute o m apos) [] [] pos) (tMethS C m sp (WE W) ta tNil) := by
  obtain ⟨f, fd, hm, _, hb, F⟩ := M.fn
  refine ⟨fun pins s σ H Q I h => ?_⟩
  refine PySem.W.methodCall_KW (pl := pl) (thn (he.run pins s σ H _ I h) fun u s1 ⟨x, H1, I1, rx, a, dx, fs, ex, ea, l, q⟩ => ?_) ht
  subst ex
  obtain rfl : u = Value.ref a := rx
  refine getmeth_ok I1 ea M.c hm l ?_
  exact PySem.W.callWith_K0 (first := [.ref a]) I1.kIn hm.kp (run_fnS (us := [.ref a]) (vs := [.ref a]) (E := WE W) F hr hb (passAt tk σ) I1 (.cons rfl .nil) q)
theorem g_meth {C : Addr} {m : Str} {sp : Sp} {E : L2.St → XK} {ta : TE} {t : TA} {σ : L2.St} {H : Hp} {Q : VK} (h : ta σ H fun x H1 => ∃ a dx fs, x = .ref a ∧ H1 a = some (.ins C dx fs) ∧ fs.lookup m = none ∧ t σ H1 fun vs H2 => sp (x :: vs) H2 Q (E σ)) : tMethS C m sp E ta t σ H Q := h
end
end NL
namespace NL
open PySem L2
/-! ### facts of the written part, asked once at the head -/
def excB (K : PySem.W.Frag) (D : Addr) : Bool := decide (PySem.W.findIn K (.ref D) "__getattribute__" = some (some (.builtin "BaseException.__getattribute__"))) && (decide (PySem.W.findIn K (.ref D) "__getattr__" = some none) && (decide (PySem.W.subIn K (.ref D) (.type "BaseException") = some true) && (PySem.W.hasDictIn K D &&
  (decide (PySem.W.findIn K (.ref D) "__class__" = some (some (.builtin "object.__class__"))) && (decide (PySem.W.specialIn K (.builtin "object.__class__") "__get__" = some (some (.builtin "getset_descriptor.__get__"))) && (decide (PySem.W.takesIn K (.builtin "object.__class__") = some true) && decide (PySem.W.mroIn K D (.type "object") = some true)))))))
/-- a class by its name: a module's one, or a built-in type -/
inductive Cn where
  | own (x : Str) | ty (n : String)
def Cn.v (K : PySem.W.Frag) : Cn → Value
  | .own x => .ref (He.ga K x)
  | .ty n => .type n
inductive Fx where
  | fa (f : He.Fa)
  /-- an own exception class with a dict -/
  | oex (x : Str)
  | fnI (x : Str)
  | excC (x : Str)
  | xf (x : Str)
  /-- isinstance of an x in y -/
  | kit (x : Str) (y : Cn) (b : Bool)
  | tup (x : Str) (vs : List He.Dv)
  | fnF (x m : Str)
def fnB (K : PySem.W.Frag) (x : Str) : Bool := He.eqO (PySem.W.findIn K (.ref (He.ga K x)) "__init__") (some (some (.ref (He.ma K (He.ga K x) "__init__")))) && decide (PySem.W.typeIn K (.ref (He.ma K (He.ga K x) "__init__")) = some (.type "function"))
def Fx.ok (K : PySem.W.Frag) : Fx → Bool
  | .fa f => f.ok K
  | .oex x => oexgB K (He.ga K x)
  | .fnI x => fnB K x
  | .excC x => excB K (He.ga K x)
  | .xf x => xfB K (He.ga K x)
  | .kit x y b => decide (PySem.W.kitOne K (.ref (He.ga K x)) (y.v K) = some b)
  | .tup x vs => He.tupB K x vs
  | .fnF x m => PySem.W.fnIn K (He.ma K (He.ga K x) m)
def fxB (l : List Fx) (K : PySem.W.Frag) : Bool := l.all fun f => f.ok K
theorem fxB_at {l : List Fx} {K : PySem.W.Frag} (h : fxB l K = true) (i : Nat) {f : Fx} (e : l[i]? = some f := by rfl) : f.ok K = true :=
  List.all_eq_true.mp h f (List.mem_of_getElem? e)
section
variable {K : PySem.W.Frag} {h : Heap} {mg : Str → Option Value} {l : List Fx}
theorem fx_glo (X : K.In h) (G : h.Ns mainGlobals mg) (c : fxB l K = true) (i : Nat) {x : Str} (e : l[i]? = some (.fa (.glo x)) := by rfl) : mg x = some (.ref (He.ga K x)) := He.glo_ok X G (fxB_at c i e)
theorem fx_free (X : K.In h) (G : h.Ns mainGlobals mg) (c : fxB l K = true) (i : Nat) {x : Str} (e : l[i]? = some (.fa (.free x)) := by rfl) : mg x = none := He.free_ok X G (fxB_at c i e)
theorem fx_int (X : K.In h) (G : h.Ns mainGlobals mg) (c : fxB l K = true) (i : Nat) {x : Str} {n : Int} (e : l[i]? = some (.fa (.int x n)) := by rfl) : GV mg x (.int n) := by
  obtain ⟨t, q⟩ := He.int_ok X G (fxB_at c i e)
  exact ⟨_, q, t, rfl⟩
theorem fx_cls (c : fxB l K = true) (i : Nat) {x : Str} (e : l[i]? = some (.fa (.cls x)) := by rfl) : Cls K (He.ga K x) := He.cls_ok (fxB_at c i e)
theorem fx_noat (c : fxB l K = true) (i : Nat) {x f : Str} (e : l[i]? = some (.fa (.noat x f)) := by rfl) : NoAttr K (He.ga K x) f := He.noat_ok (fxB_at c i e)
theorem fx_meth (c : fxB l K = true) (i : Nat) {x m : Str} (e : l[i]? = some (.fa (.meth x m)) := by rfl) : Meth K (He.ga K x) m (He.ma K (He.ga K x) m) := He.meth_ok (fxB_at c i e)
theorem fx_fnF (c : fxB l K = true) (i : Nat) {x m : Str} (e : l[i]? = some (.fnF x m) := by rfl) : PySem.W.fnIn K (He.ma K (He.ga K x) m) = true := fxB_at c i e
theorem fx_mkr (c : fxB l K = true) (i : Nat) {x : Str} (e : l[i]? = some (.fa (.mkr x)) := by rfl) : Mk K (He.ga K x) (He.ma K (He.ga K x) "__init__") := He.mkr_ok (fxB_at c i e)
theorem fx_oex (c : fxB l K = true) (i : Nat) {x : Str} (e : l[i]? = some (.oex x) := by rfl) : OexG K (He.ga K x) := oexgB_ok (fxB_at c i e)
theorem fx_fnI (c : fxB l K = true) (i : Nat) {x : Str} (e : l[i]? = some (.fnI x) := by rfl) : PySem.W.findIn K (.ref (He.ga K x)) "__init__" = some (some (.ref (He.ma K (He.ga K x) "__init__"))) ∧ PySem.W.typeIn K (.ref (He.ma K (He.ga K x) "__init__")) = some (.type "function") := by
  have q : fnB K x = true := fxB_at c i e
  unfold fnB at q
  simp only [Bool.and_eq_true, decide_eq_true_eq] at q
  exact ⟨He.eqO_ok q.1, q.2⟩
end
theorem hCX {P : Program} (w : World) (H : Hp) (s : Shared) (e : Value) (s' : Shared) (h : L2.CX P w [] H s (fun _ _ _ => False) e s') : False := by
  obtain ⟨_, _, _, _, _, _, _, _, _, _, _, _, z⟩ := h
  exact z
end NL
namespace NL
open PySem L2
/-! ### match over texts: written texts, | of them, _ ; a guard -/
section
variable {X : Cx} {K : PySem.W.Frag}
def tMnil : Str → TS := fun _ D σ H => D.nx σ H
def tMcs (ks : List Str) (tb : TS) (tr : Str → TS) : Str → TS := fun a D σ H => if decide (a ∈ ks) = true then tb D σ H else tr a D σ H
def tMcg (ks : List Str) (tg : TT) (tb : TS) (tr : Str → TS) : Str → TS := fun a D σ H => if decide (a ∈ ks) = true then tg σ H (fun b H1 => if b = true then tb D σ H1 else tr a D σ H1) else tr a D σ H
def tMany (tb : TS) : Str → TS := fun _ D σ H => tb D σ H
def tMatch (te : TE) (tc : Str → TS) : TS := fun D σ H => te σ H fun x H1 => ∃ a, x = .str a ∧ tc a D σ H1
variable {σ : L2.St} {H : Hp} {D : Ends} {a : Str} {ks : List Str}
theorem g_match {te : TE} {tc : Str → TS} (h : te σ H fun x H1 => ∃ a, x = .str a ∧ tc a D σ H1) : tMatch te tc D σ H := h
theorem g_matched {Z : Str → Prop} (h : Z a) : ∃ b, V.str a = .str b ∧ Z b := ⟨a, rfl, h⟩
theorem g_mcs {tb : TS} {tr : Str → TS} (h : if decide (a ∈ ks) = true then tb D σ H else tr a D σ H) : tMcs ks tb tr a D σ H := h
theorem g_mcg {tg : TT} {tb : TS} {tr : Str → TS} (h : if decide (a ∈ ks) = true then tg σ H (fun b H1 => if b = true then tb D σ H1 else tr a D σ H1) else tr a D σ H) : tMcg ks tg tb tr a D σ H := h
theorem g_many {tb : TS} (h : tb D σ H) : tMany tb a D σ H := h
theorem g_mnil {nx : L2.St → Hp → Prop} {rt : VK} {bk ct : L2.St → Hp → Prop} (h : nx σ H) : tMnil a ⟨nx, rt, bk, ct⟩ σ H := h
/-! ### fields -/
theorem g_afld {ta tv : TE} {rd : V → V → Hp → VK → Prop} {f : Str} {nx : L2.St → Hp → Prop} {rt : VK} {bk ct : L2.St → Hp → Prop} (h : ta σ H fun x H1 => ∃ a C dx fs v, x = .ref a ∧ H1 a = some (.ins C dx fs) ∧ Cls K C ∧ NoAttr K C f ∧ fs.lookup f = some v ∧
    tv σ H1 fun y H2 => rd v y H2 fun z H3 => ∃ dx' fs', H3 a = some (.ins C dx' fs') ∧ fs'.length < 1000 ∧ nx σ (upd H3 a (.ins C dx' (putF f z fs')))) : sFldAug K ta tv rd f ⟨nx, rt, bk, ct⟩ σ H := h
theorem g_rAdd {i j : Int} {Q : VK} (h : Q (.int (i + j)) H) : rAdd (.int i) (.int j) H Q := ⟨i, j, rfl, rfl, h⟩
theorem g_rSub {i j : Int} {Q : VK} (h : Q (.int (i - j)) H) : rSub (.int i) (.int j) H Q := ⟨i, j, rfl, rfl, h⟩
theorem g_af {p C dx : Addr} {fs : List (Str × V)} {Z : Addr → List (Str × V) → Prop} (z1 : H p = some (.ins C dx fs)) (z4 : fs.length < 1000) (h : Z dx fs) : ∃ dx' fs', H p = some (.ins C dx' fs') ∧ fs'.length < 1000 ∧ Z dx' fs' := ⟨dx, fs, z1, z4, h⟩
theorem g_gfa {p C dx : Addr} {fs : List (Str × V)} {f : Str} {v : V} {Z : Addr → Addr → V → Prop} (z1 : H p = some (.ins C dx fs)) (z2 : Cls K C) (z3 : NoAttr K C f) (z4 : fs.lookup f = some v) (h : Z p C v) :
    ∃ a C dx fs v, V.ref p = .ref a ∧ H a = some (.ins C dx fs) ∧ Cls K C ∧ NoAttr K C f ∧ fs.lookup f = some v ∧ Z a C v := ⟨p, C, dx, fs, v, rfl, z1, z2, z3, z4, h⟩
theorem g_mt {p C dx : Addr} {fs : List (Str × V)} {m : Str} {Z : Prop} (z1 : H p = some (.ins C dx fs)) (z2 : fs.lookup m = none) (h : Z) : ∃ a dx fs, V.ref p = .ref a ∧ H a = some (.ins C dx fs) ∧ fs.lookup m = none ∧ Z := ⟨p, dx, fs, rfl, z1, z2, h⟩
theorem g_ite_refl {α : Type} [DecidableEq α] {x : α} {A B : Prop} (h : B) : if (!decide (x = x)) = true then A else B := by
  rw [show (!decide (x = x)) = false by simp]
  exact iteF h
end
theorem g_isi {K : PySem.W.Frag} {H : Hp} {Q : VK} {x c : V} {t u : Value} {b : Bool} (h1 : ClsV c u) (h2 : TyX K H x t) (h3 : PySem.W.kitOne K t u = some b) (h : Q (.bl b) H) : dIsi K [x, c] H Q := ⟨x, c, t, u, b, rfl, h1, h2, h3, h⟩
end NL
namespace NL
open PySem L2
/-! ### an own object that is called -/
/-- callWith of an instance: where the arguments are made it is an instance still -/
theorem callWith_inst {M : Model} {A : Around} {E : Value → Shared → Prop} {s : Shared} {pos : Pos} {x : Addr} {Q : Value → Shared → Prop} {args : List (Bool × Sem Value)} (hplain : args.any (·.1) = false)
    (h : wpAny M A (evalArgs (.ref x) true args []) (fun a s₁ => (∃ C ox od, ox.data = .plain ∧ PySem.W.InstAt s₁.heap x ox C od) ∧ wpAny M A (call (.ref x) a.pos a.kw) Q E s₁) E s) :
    wpAny M A (callWith pos (.ref x) [] args []) Q E s := by
  unfold callWith
  refine wpAny_bind (wpAny_holding (thn h fun a s1 hh => ?_))
  obtain ⟨⟨C, ox, od, hd, J⟩, hc⟩ := hh
  refine wpAny_bind (wpAny_standAt ?_)
  have hk := PySem.W.kco_keeper (M := M) J hd
  have hp : (args.any (·.1) || List.any (α := Option Str × Sem Value) [] (·.1.isNone)) = false := by rw [hplain]; rfl
  simp only [hp]
  refine wpAny_bind (hk.here ?_)
  have last : ∀ {t : Sem Value}, wpAny M A t Q E s1 → wpAny M A (do let r ← t; holding [r] point; pure r) Q E s1 := fun ht =>
    wpAny_bind (thn ht fun r s2 hr => wpAny_bind (wpAny_holding (wpAny_point (wpAny_pure hr))))
  exact last (wpAny_operateT hc)
section
variable {X : Cx} {k : Nat} {x : Str} {C : Addr} {e : Expr} {es : List Expr} {t : TA} {ta : TE} {p pos : Pos} {ps : List Str} {sp : Sp} {W : WX}
def tCallO (C : Addr) (sp : Sp) (E : L2.St → XK) (ta : TE) (t : TA) : TE := fun σ H Q => ta σ H fun x H1 => ∃ a dx fs, x = .ref a ∧ H1 a = some (.ins C dx fs) ∧ t σ H1 fun vs H2 => (∃ dx' fs', H2 a = some (.ins C dx' fs')) ∧ sp (x :: vs) H2 Q (E σ)
theorem q_callO (M : MtC X.prog X.w X.K X.mg X.base k C "__call__" ps sp) (tk : Takes X W) (hr : Room (k + 1) X.A) (hf : PE X (.Name x p) ta) (ha : PA X (e :: es) t)
    (he : starEach (e :: es) X.env = (false, eval e X.env) :: starEach es X.env := by rfl) (hpl : (backTo pos (starEach es X.env)).any (·.1) = false := by rfl) :
    PE X (.Call (.Name x p) (e :: es) [] pos) (tCallO C sp (WE W) ta t) := by
  obtain ⟨f, fd, hm, hfn, hb, F⟩ := M.fn
  refine ⟨fun pins s σ H Q I h => ?_⟩
  refine wpAny_Call_Name_kw (thn (hf.run pins s σ H _ I h) fun u s1 ⟨x, H1, I1, rx, a, dx, fs, ex, ea, q⟩ => ?_)
  subst ex
  obtain rfl : u = Value.ref a := rx
  show wpAny _ _ (callWith pos (.ref a) [] (backTo pos (starEach (e :: es) X.env)) []) _ _ _
  refine callWith_inst (by rw [he]; show (false || (backTo pos (starEach es X.env)).any (·.1)) = false; rw [hpl]; rfl) ?_
  have run := thn (ha.run pos pins s1 σ H1 _ I1 q) (Q' := fun us s2 => (∃ C ox od, ox.data = .plain ∧ PySem.W.InstAt s2.heap a ox C od) ∧ wpAny (model X.prog X.w) X.A (call (.ref a) us) (EP X pins σ Q) X.xe s2) fun us s2 ⟨vs, H2, I2, r, ⟨dx', fs', ea2⟩, q2⟩ => by
    obtain ⟨mA, O, _⟩ := ins_get I2.hok ea2
    obtain ⟨od, J, _⟩ := O.look
    refine ⟨⟨C, _, _, rfl, J⟩, ?_⟩
    have rr : Vals (V.ref a :: vs) (Value.ref a :: us) := Paired.cons rfl r
    have hl : (Value.ref a :: us).length = ps.length := by rw [← rr.length]; exact F.len _ _ _ _ q2
    have b := hb s2 (Value.ref a :: us) I2.kIn (by rw [List.append_nil]; exact hl)
    rw [List.append_nil] at b
    refine wpAny_call (PySem.W.kco_code (a := ⟨us, []⟩) I2.kIn J rfl hm.at_ hm.fn hfn ?_)
    refine codeAny_mono (F.run X.A X.stack s2 H2 ⟨Value.ref a :: us, []⟩ (Value.ref a :: us) (V.ref a :: vs) Q (WE W σ) (hr.mono (Nat.le_succ _)) I2.env0 b rr q2) fun r s' hq => ?_
    cases r with
    | error e => exact passAt tk σ pins H2 s2 e s' I2 hq
    | ok fl =>
      cases fl with
      | ret u => exact I2.after hq
      | next => exact False.elim hq
      | brk => exact False.elim hq
      | cont => exact False.elim hq
  rw [he] at run ⊢
  exact Calls.evalArgs_plain run
theorem g_callO {σ : L2.St} {H : Hp} {Q : VK} {E : L2.St → XK} (h : ta σ H fun x H1 => ∃ a dx fs, x = .ref a ∧ H1 a = some (.ins C dx fs) ∧ t σ H1 fun vs H2 => (∃ dx' fs', H2 a = some (.ins C dx' fs')) ∧ sp (x :: vs) H2 Q (E σ)) : tCallO C sp E ta t σ H Q := h
theorem g_co {H : Hp} {p dx : Addr} {fs : List (Str × V)} {Z : Addr → Prop} (z1 : H p = some (.ins C dx fs)) (h : Z p) : ∃ a dx fs, V.ref p = .ref a ∧ H a = some (.ins C dx fs) ∧ Z a := ⟨p, dx, fs, rfl, z1, h⟩
theorem g_ci {H : Hp} {p dx : Addr} {fs : List (Str × V)} {Z : Prop} (z1 : H p = some (.ins C dx fs)) (h : Z) : (∃ dx' fs', H p = some (.ins C dx' fs')) ∧ Z := ⟨⟨dx, fs, z1⟩, h⟩
end
theorem units1 {A : Around} (h : A.units + 64 < cLine) : A.units + 1 < cLine := by omega
/-! ### dicts -/
section
variable {X : Cx} {K : PySem.W.Frag} {σ : L2.St} {H : Hp} {Q : VK} {td ty tv : TE} {p : Addr} {kvs : List (Key × V)} {z : Str} {i : Int} {v : V}
theorem g_dget (h : td σ H fun x H1 => ty σ H1 fun y H2 => ∃ a v, x = .ref a ∧ DGet H2 a y (some v) ∧ Q v H2) : tDGet td ty σ H Q := h
theorem g_dgs {Z : V → Prop} (z1 : H p = some (.dK kvs)) (z2 : valV kvs (.inr z) = some v) (h : Z v) : ∃ a v, V.ref p = .ref a ∧ DGet H a (.str z) (some v) ∧ Z v :=
  ⟨p, v, rfl, .inl ⟨kvs, .inr z, .inl z1, rfl, z2.symm⟩, h⟩
theorem g_dput {nx : L2.St → Hp → Prop} {rt : VK} {bk ct : L2.St → Hp → Prop} (h : tv σ H fun v H1 => td σ H1 fun x H2 => ty σ H2 fun y H3 => ∃ a H4, x = .ref a ∧ DPut H3 a y v H4 ∧ nx σ H4) : sDPut td ty tv ⟨nx, rt, bk, ct⟩ σ H := h
theorem g_dps {Z : Hp → Prop} (z1 : H p = some (.dK kvs)) (z2 : kvs.length < sizeLine) (h : Z (upd H p (.dK (putK kvs (.inr z) v)))) : ∃ a H4, V.ref p = .ref a ∧ DPut H a (.str z) v H4 ∧ Z H4 :=
  ⟨p, _, rfl, .inl ⟨kvs, .inr z, z1, rfl, z2, rfl⟩, h⟩
end
end NL
namespace NL
open PySem L2
/-! ### edges: from a heap to the next; what lies in U may change, nothing goes -/
def Ed (U : List Addr) (H H' : Hp) : Prop := (∀ a o, a ∉ U → H a = some o → H' a = some o) ∧ ∀ a, H a ≠ none → H' a ≠ none
section
variable {U U' W : List Addr} {H H' H0 H1 H2 : Hp} {a b p : Addr} {o : HO}
theorem no0 {P : Addr → Prop} : ∀ a ∈ ([] : List Addr), P a := fun _ z => absurd z List.not_mem_nil
theorem Ed.refl : Ed U H H := ⟨fun _ _ _ e => e, fun _ h => h⟩
theorem Ed.free (e : Ed U H H') (h : H' a = none) : H a = none := by
  by_cases z : H a = none
  · exact z
  · exact absurd h (e.2 a z)
theorem Ed.tr (h1 : Ed U H0 H1) (h2 : Ed U' H1 H2) (hv : ∀ a ∈ U', a ∈ U ∨ H0 a = none) : Ed U H0 H2 :=
  ⟨fun a o n e => h2.1 a o (fun z => (hv a z).elim n (fun q => by rw [q] at e; cases e)) (h1.1 a o n e), fun a h => h2.2 a (h1.2 a h)⟩
theorem Ed.new (hp : H p = none) : Ed [] H (upd H p o) := ⟨fun a u _ e => by rw [upd_ne (ne_of_none e hp)]; exact e, fun a h => by
  rw [upd_ne (fun z : a = p => h (by rw [z]; exact hp))]; exact h⟩
theorem Ed.put : Ed [p] H (upd H p o) := ⟨fun a u n e => by rw [upd_ne (fun z => n (by rw [z]; exact List.mem_singleton.mpr rfl))]; exact e, fun a h => by
  by_cases z : a = p
  · rw [z, upd_same]; exact fun z => nomatch z
  · rw [upd_ne z]; exact h⟩
theorem Ed.same (s : Same H H') : Ed [] H H' := ⟨fun a o _ e => s a o e, fun a h => by
  cases e : H a with
  | none => exact absurd e h
  | some o => rw [s a o e]; exact fun z => nomatch z⟩
theorem Ed.sx (s : Sx U H H') (h : ∀ a ∈ U, H' a ≠ none) : Ed U H H' := ⟨fun a o n e => s a o n e, fun a q => by
  by_cases z : a ∈ U
  · exact h a z
  · cases e : H a with
    | none => exact absurd e q
    | some o => rw [s a o z e]; exact fun z => nomatch z⟩
theorem Ed.same' (e : Ed [] H H') : Same H H' := fun a o q => e.1 a o (List.not_mem_nil) q
theorem Ed.get (e : Ed U H H') (n : a ∉ U) (h : H a = some o) : H' a = some o := e.1 a o n h
/-- all of W lie in H -/
def Wl (W : List Addr) (H : Hp) : Prop := ∀ a ∈ W, H a ≠ none
theorem Wl.nil : Wl [] H := no0
theorem Wl.cons (h : H a = some o) (r : Wl W H) : Wl (a :: W) H := fun c hc => by
  rcases List.mem_cons.mp hc with rfl | hc
  · rw [h]; exact fun z => nomatch z
  · exact r c hc
theorem Wl.ed (w : Wl W H) (e : Ed U H H') : Wl W H' := fun a h => e.2 a (w a h)
theorem Wl.not (w : Wl W H) (h : H a = none) : a ∉ W := fun z => w a z h
end
/-! ### data of one's own: every part lies outside of W -/
mutual
/-- no dict in it -/
def noD : PyData → Bool
  | .list ds => noDs ds
  | .tuple ds => noDs ds
  | .dict _ => false
  | .none => true
  | .bool _ => true
  | .int _ => true
  | .str _ => true
def noDs : List PyData → Bool
  | [] => true
  | d :: r => noD d && noDs r
end
/-- data that can be compared -/
def Sh (d : PyData) : Prop := SeqAt.shaped d = true ∧ noD d = true
theorem Sh.int (i : Int) : Sh (.int i) := ⟨by simp [SeqAt.shaped, PyData.canLay0, PyData.depth], by simp [noD]⟩
theorem Sh.bool (i : Bool) : Sh (.bool i) := ⟨by simp [SeqAt.shaped, PyData.canLay0, PyData.depth], by simp [noD]⟩
theorem Sh.none : Sh .none := ⟨by simp [SeqAt.shaped, PyData.canLay0, PyData.depth], by simp [noD]⟩
theorem Sh.str {s : Str} (h : PyData.strOk s = true) : Sh (.str s) := ⟨by simp [SeqAt.shaped, PyData.canLay0, PyData.depth, h], by simp [noD]⟩
/-- data that can lie in a list or tuple of what is compared: n deep at most -/
def Sd (n : Nat) (d : PyData) : Prop := d.canLay0 = true ∧ d.depth ≤ n ∧ noD d = true
theorem Sd.mono {n m : Nat} {d : PyData} (h : Sd n d) (l : n ≤ m) : Sd m d := ⟨h.1, Nat.le_trans h.2.1 l, h.2.2⟩
theorem Sd.all {n : Nat} : ∀ {ds : List PyData}, (∀ d ∈ ds, Sd n d) → PyData.canLayAll0 ds = true ∧ PyData.depthAll ds ≤ n ∧ noDs ds = true
  | [], _ => ⟨rfl, by simp [PyData.depthAll], by simp [noDs]⟩
  | d :: r, h => by
    obtain ⟨h1, h2, h3⟩ := h d (List.mem_cons_self ..)
    obtain ⟨k1, k2, k3⟩ := Sd.all fun e he => h e (List.mem_cons_of_mem _ he)
    exact ⟨by simp [PyData.canLayAll0, h1, k1], by simp only [PyData.depthAll]; omega, by simp [noDs, h3, k3]⟩
theorem Sd.list {n : Nat} {ds : List PyData} (h : ∀ d ∈ ds, Sd n d) : Sd (n + 1) (.list ds) := by
  obtain ⟨k1, k2, k3⟩ := Sd.all h
  exact ⟨by simp only [PyData.canLay0, k1], by simp only [PyData.depth]; omega, by simp only [noD, k3]⟩
theorem Sd.tuple {n : Nat} {ds : List PyData} (h : ∀ d ∈ ds, Sd n d) : Sd (n + 1) (.tuple ds) := by
  obtain ⟨k1, k2, k3⟩ := Sd.all h
  exact ⟨by simp only [PyData.canLay0, k1], by simp only [PyData.depth]; omega, by simp only [noD, k3]⟩
theorem Sd.sh {n : Nat} {d : PyData} (h : Sd n d) (l : n ≤ 60) : Sh d := ⟨by
  simp only [SeqAt.shaped, h.1, Bool.true_and]
  have := h.2.1
  exact decide_eq_true (by omega), h.2.2⟩
theorem Sd.int (i : Int) : Sd 0 (.int i) := ⟨by simp [PyData.canLay0], by simp [PyData.depth], by simp [noD]⟩
theorem Sd.bool (i : Bool) : Sd 0 (.bool i) := ⟨by simp [PyData.canLay0], by simp [PyData.depth], by simp [noD]⟩
theorem Sd.none : Sd 0 .none := ⟨by simp [PyData.canLay0], by simp [PyData.depth], by simp [noD]⟩
theorem Sd.str {s : Str} (h : PyData.strOk s = true) : Sd 0 (.str s) := ⟨by simp [PyData.canLay0, h], by simp [PyData.depth], by simp [noD]⟩
theorem Sd.map {α : Type} {n : Nat} {f : α → PyData} {xs : List α} (h : ∀ x ∈ xs, Sd n (f x)) : ∀ d ∈ xs.map f, Sd n d := fun d hd => by
  obtain ⟨x, hx, rfl⟩ := List.mem_map.mp hd
  exact h x hx
theorem Sd.nil {n : Nat} : ∀ d ∈ ([] : List PyData), Sd n d := fun d hd => absurd hd List.not_mem_nil
theorem Sd.cons {n : Nat} {d : PyData} {r : List PyData} (h : Sd n d) (k : ∀ d ∈ r, Sd n d) : ∀ e ∈ d :: r, Sd n e := fun e he => by
  rcases List.mem_cons.mp he with rfl | he
  · exact h
  · exact k e he
/-- an object of which the data tell the place alone -/
abbrev ob (a : Addr) : PyData := .dict [(.int (a : Nat), .none)]
mutual
inductive Df (W : List Addr) (H : Hp) : L2.V → PyData → Prop
  | non : Df W H .non .none
  | bl (b : Bool) : Df W H (.bl b) (.bool b)
  | int (i : Int) : Df W H (.int i) (.int i)
  | str (s : Str) : Df W H (.str s) (.str s)
  | obj {a : Addr} : a ∉ W → H a ≠ none → Df W H (.ref a) (ob a)
  | lst {a : Addr} {xs : List V} {ds : List PyData} : a ∉ W → H a = some (.lst xs) → DfAll W H xs ds → Df W H (.ref a) (.list ds)
  | tup {a : Addr} {xs : List V} {ds : List PyData} : a ∉ W → H a = some (.tup xs) → DfAll W H xs ds → Df W H (.ref a) (.tuple ds)
inductive DfAll (W : List Addr) (H : Hp) : List L2.V → List PyData → Prop
  | nil : DfAll W H [] []
  | cons {v : V} {d : PyData} {vs : List V} {ds : List PyData} : Df W H v d → DfAll W H vs ds → DfAll W H (v :: vs) (d :: ds)
end
section
variable {U W W' : List Addr} {H H' : Hp} {v : V} {d : PyData} {vs : List L2.V} {ds : List PyData} {K : PySem.W.Frag} {p a : Addr}
mutual
theorem Df.ed (e : Ed U H H') (hv : ∀ a ∈ U, a ∈ W) : ∀ {v : L2.V} {d : PyData}, Df W H v d → Df W H' v d
  | _, _, .non => .non
  | _, _, .bl b => .bl b
  | _, _, .int b => .int b
  | _, _, .str b => .str b
  | _, _, .obj n h => .obj n (e.2 _ h)
  | _, _, .lst n h r => .lst n (e.1 _ _ (fun z => n (hv _ z)) h) (DfAll.ed e hv r)
  | _, _, .tup n h r => .tup n (e.1 _ _ (fun z => n (hv _ z)) h) (DfAll.ed e hv r)
theorem DfAll.ed (e : Ed U H H') (hv : ∀ a ∈ U, a ∈ W) : ∀ {vs : List L2.V} {ds : List PyData}, DfAll W H vs ds → DfAll W H' vs ds
  | _, _, .nil => .nil
  | _, _, .cons h r => .cons (Df.ed e hv h) (DfAll.ed e hv r)
end
mutual
theorem Df.weak (hv : ∀ a ∈ W', a ∈ W) : ∀ {v : L2.V} {d : PyData}, Df W H v d → Df W' H v d
  | _, _, .non => .non
  | _, _, .bl b => .bl b
  | _, _, .int b => .int b
  | _, _, .str b => .str b
  | _, _, .obj n h => .obj (fun z => n (hv _ z)) h
  | _, _, .lst n h r => .lst (fun z => n (hv _ z)) h (DfAll.weak hv r)
  | _, _, .tup n h r => .tup (fun z => n (hv _ z)) h (DfAll.weak hv r)
theorem DfAll.weak (hv : ∀ a ∈ W', a ∈ W) : ∀ {vs : List L2.V} {ds : List PyData}, DfAll W H vs ds → DfAll W' H vs ds
  | _, _, .nil => .nil
  | _, _, .cons h r => .cons (Df.weak hv h) (DfAll.weak hv r)
end
mutual
theorem Df.more (hp : H p = none) : ∀ {v : L2.V} {d : PyData}, Df W H v d → Df (p :: W) H v d
  | _, _, .non => .non
  | _, _, .bl b => .bl b
  | _, _, .int b => .int b
  | _, _, .str b => .str b
  | _, _, .obj n h => .obj (fun z => (List.mem_cons.mp z).elim (fun q => h (by rw [q]; exact hp)) n) h
  | _, _, .lst n h r => .lst (fun z => (List.mem_cons.mp z).elim (ne_of_none h hp) n) h (DfAll.more hp r)
  | _, _, .tup n h r => .tup (fun z => (List.mem_cons.mp z).elim (ne_of_none h hp) n) h (DfAll.more hp r)
theorem DfAll.more (hp : H p = none) : ∀ {vs : List L2.V} {ds : List PyData}, DfAll W H vs ds → DfAll (p :: W) H vs ds
  | _, _, .nil => .nil
  | _, _, .cons h r => .cons (Df.more hp h) (DfAll.more hp r)
end
mutual
theorem Df.dp : ∀ {v : L2.V} {d : PyData}, Df W H v d → noD d = true → Dp K H v d
  | _, _, .non, _ => .non
  | _, _, .bl b, _ => .bl b
  | _, _, .int b, _ => .int b
  | _, _, .str b, _ => .str b
  | _, _, .obj _ _, h => by simp [noD] at h
  | _, _, .lst _ h r, q => .lst (SqL.of h) (DfAll.dp r (by simpa [noD] using q))
  | _, _, .tup _ h r, q => .tup (SqT.of h) (DfAll.dp r (by simpa [noD] using q))
theorem DfAll.dp : ∀ {vs : List L2.V} {ds : List PyData}, DfAll W H vs ds → noDs ds = true → DpAll K H vs ds
  | _, _, .nil, _ => .nil
  | _, _, .cons h r, q => .cons (Df.dp h (by simp [noDs] at q; exact q.1)) (DfAll.dp r (by simp [noDs] at q; exact q.2))
end
theorem DfAll.length : ∀ {vs : List L2.V} {ds : List PyData}, DfAll W H vs ds → vs.length = ds.length
  | _, _, .nil => rfl
  | _, _, .cons _ r => by rw [List.length_cons, List.length_cons, DfAll.length r]
theorem DfAll.at : ∀ {vs : List L2.V} {ds : List PyData} {i : Nat} {d : PyData}, DfAll W H vs ds → ds[i]? = some d → ∃ v, vs[i]? = some v ∧ Df W H v d
  | _, _, _, _, .nil, e => by simp at e
  | _, _, 0, _, .cons h _, e => by simp at e; subst e; exact ⟨_, rfl, h⟩
  | _, _, i + 1, _, .cons _ r, e => by
    obtain ⟨v, h1, h2⟩ := DfAll.at r (i := i) (by simpa using e)
    exact ⟨v, by simpa using h1, h2⟩
theorem DfAll.at' : ∀ {vs : List L2.V} {ds : List PyData} {i : Nat} {v : L2.V}, DfAll W H vs ds → vs[i]? = some v → ∃ d, ds[i]? = some d ∧ Df W H v d
  | _, _, _, _, .nil, e => by simp at e
  | _, _, 0, _, .cons h _, e => by simp at e; subst e; exact ⟨_, rfl, h⟩
  | _, _, i + 1, _, .cons _ r, e => by
    obtain ⟨v, h1, h2⟩ := DfAll.at' r (i := i) (by simpa using e)
    exact ⟨v, by simpa using h1, h2⟩
theorem DfAll.app : ∀ {vs ws : List L2.V} {ds es : List PyData}, DfAll W H vs ds → DfAll W H ws es → DfAll W H (vs ++ ws) (ds ++ es)
  | _, _, _, _, .nil, h => h
  | _, _, _, _, .cons h r, q => .cons h (DfAll.app r q)
theorem DfAll.snoc {vs : List L2.V} {ds : List PyData} (h : DfAll W H vs ds) (q : Df W H v d) : DfAll W H (vs ++ [v]) (ds ++ [d]) := h.app (.cons q .nil)
theorem DfAll.drop : ∀ {vs : List L2.V} {ds : List PyData} (n : Nat), DfAll W H vs ds → DfAll W H (vs.drop n) (ds.drop n)
  | _, _, 0, h => h
  | _, _, _ + 1, .nil => .nil
  | _, _, n + 1, .cons _ r => DfAll.drop n r
theorem DfAll.take : ∀ {vs : List L2.V} {ds : List PyData} (n : Nat), DfAll W H vs ds → DfAll W H (vs.take n) (ds.take n)
  | _, _, 0, _ => .nil
  | _, _, _ + 1, .nil => .nil
  | _, _, n + 1, .cons h r => .cons h (DfAll.take n r)
theorem DfAll.strs (xs : List Str) : DfAll W H (xs.map L2.V.str) (xs.map PyData.str) := by
  induction xs with
  | nil => exact .nil
  | cons x r ih => exact .cons (.str x) ih
theorem DfAll.ints (xs : List Int) : DfAll W H (xs.map L2.V.int) (xs.map PyData.int) := by
  induction xs with
  | nil => exact .nil
  | cons x r ih => exact .cons (.int x) ih
theorem DfAll.strs' : ∀ {xs : List Str} {vs : List L2.V}, DfAll W H vs (xs.map PyData.str) → vs = xs.map L2.V.str
  | [], _, .nil => rfl
  | x :: r, _, .cons (.str _) h => by rw [DfAll.strs' h]; rfl
theorem Df.strL {xs : List Str} (h : Df W H (.ref p) (.list (xs.map PyData.str))) : p ∉ W ∧ H p = some (.lst (xs.map L2.V.str)) := by
  cases h with
  | lst n h r => rw [DfAll.strs' r] at h; exact ⟨n, h⟩
theorem Df.ofStrs {xs : List Str} (n : p ∉ W) (h : H p = some (.lst (xs.map L2.V.str))) : Df W H (.ref p) (.list (xs.map PyData.str)) := .lst n h (.strs xs)
theorem Df.cells (h : Df W H (.ref p) (.list ds)) : ∃ xs, p ∉ W ∧ H p = some (.lst xs) ∧ DfAll W H xs ds := by
  cases h with
  | lst n h r => exact ⟨_, n, h, r⟩
theorem Df.cellsT (h : Df W H (.ref p) (.tuple ds)) : ∃ xs, p ∉ W ∧ H p = some (.tup xs) ∧ DfAll W H xs ds := by
  cases h with
  | tup n h r => exact ⟨_, n, h, r⟩
theorem Df.isRefT (h : Df W H v (.tuple ds)) : ∃ p, v = .ref p := by
  cases h with
  | tup n h r => exact ⟨_, rfl⟩
theorem Df.nin (h : Df W H (.ref p) d) : p ∉ W := by
  cases h with
  | obj n _ => exact n
  | lst n _ _ => exact n
  | tup n _ _ => exact n
theorem Df.alive (h : Df W H (.ref p) d) : H p ≠ none := by
  cases h with
  | obj _ h => exact h
  | lst _ h _ => rw [h]; exact fun z => nomatch z
  | tup _ h _ => rw [h]; exact fun z => nomatch z
theorem Df.isStr {s : Str} (h : Df W H v (.str s)) : v = .str s := by cases h; rfl
theorem Df.isInt {s : Int} (h : Df W H v (.int s)) : v = .int s := by cases h; rfl
/-- a list that is being built at p -/
def Bld (W : List Addr) (H : Hp) (p : Addr) (ds : List PyData) : Prop := p ∉ W ∧ ∃ xs, H p = some (.lst xs) ∧ DfAll (p :: W) H xs ds
theorem Bld.done (h : Bld W H p ds) : Df W H (.ref p) (.list ds) := by
  obtain ⟨n, xs, h, r⟩ := h
  exact .lst n h (r.weak fun a z => List.mem_cons_of_mem _ z)
theorem Bld.ed (h : Bld W H p ds) (e : Ed U H H') (hv : ∀ a ∈ U, a ∈ W) : Bld W H' p ds := by
  obtain ⟨n, xs, h, r⟩ := h
  exact ⟨n, xs, e.1 _ _ (fun z => n (hv _ z)) h, r.ed e fun a z => List.mem_cons_of_mem _ (hv a z)⟩
theorem Bld.alive (h : Bld W H p ds) : H p ≠ none := by
  obtain ⟨n, xs, h, r⟩ := h
  rw [h]; exact fun z => nomatch z
end
/-! ### steps -/
section
variable {U W W' : List Addr} {H H' : Hp} {Q : VK} {v x y : L2.V} {d e : PyData} {vs : List L2.V} {ds es : List PyData} {K : PySem.W.Frag} {p q : Addr} {i : Int}
theorem g_dn (h : DfAll W H vs ds) (w : Wl W H) (k : ∀ p H', H p = none → Ed [] H H' → Df W H' (.ref p) (.list ds) → Q (.ref p) H') : ∀ p, H p = none → Q (.ref p) (upd H p (.lst vs)) :=
  fun p hp => k p _ hp (Ed.new hp) (.lst (w.not hp) upd_same (h.ed (Ed.new hp) no0))
theorem g_bap (h : Bld W H p ds) (hy : Df (p :: W) H y d) (z : ds.length < sizeLine) (k : ∀ H', Ed [p] H H' → Bld W H' p (ds ++ [d]) → Q .non H') : rAppend (.ref p) [y] H Q := by
  obtain ⟨n, xs, h, r⟩ := h
  refine ⟨p, xs, y, rfl, rfl, h, by rw [r.length]; exact z, k _ Ed.put ⟨n, _, upd_same, ?_⟩⟩
  exact (r.snoc hy).ed Ed.put fun a z => by rw [List.mem_singleton.mp z]; exact List.mem_cons_self ..
theorem g_lend (h : Df W H (.ref p) (.list ds)) (k : Q (.int ds.length) H) : dLen K [.ref p] H Q := by
  obtain ⟨xs, n, hp, r⟩ := h.cells
  exact g_len_l (Or.inl (SqL.of hp)) (by rw [r.length]; exact k)
theorem g_ned (h1 : Df W H x d) (h2 : Df W' H y e) (s1 : Sh d) (s2 : Sh e) (k : Q (.bl (!PyData.eqv d e)) H) : dNe K x y H Q := .inr ⟨d, e, h1.dp s1.2, h2.dp s2.2, s1.1, s2.1, k⟩
theorem g_addd (h1 : Df W H (.ref p) (.list ds)) (h2 : Df W H (.ref q) (.list es)) (w : Wl W H) (z : ds.length + es.length ≤ sizeLine) (k : ∀ p H', H p = none → Ed [] H H' → Df W H' (.ref p) (.list (ds ++ es)) → Q (.ref p) H') : dAdd (.ref p) (.ref q) H Q := by
  obtain ⟨xs, n, hp, r⟩ := h1.cells
  obtain ⟨ys, m, hq, t⟩ := h2.cells
  exact ⟨xs, ys, hp, hq, by rw [r.length, t.length]; exact z, g_dn (r.app t) w k⟩
/-- list(p) -/
theorem g_listd (h : Df W H (.ref p) (.list ds)) (w : Wl W H) (k : ∀ p H', H p = none → Ed [] H H' → Df W H' (.ref p) (.list ds) → Q (.ref p) H') : dList K [.ref p] H Q := by
  obtain ⟨xs, n, hp, r⟩ := h.cells
  exact g_listL (Or.inl (SqL.of hp)) (g_dn r w k)
theorem g_inds {t : Str} {ns : List Str} (h : Df W H (.ref p) (.list (ns.map PyData.str))) (k : Q (.bl (decide (t ∈ ns))) H) : dIn K (.str t) (.ref p) H Q := g_inLs (Or.inl (SqL.of h.strL.2)) k
theorem g_ninds {t : Str} {ns : List Str} (h : Df W H (.ref p) (.list (ns.map PyData.str))) (k : Q (.bl (!decide (t ∈ ns))) H) : dNotIn K (.str t) (.ref p) H Q := g_ninLs (Or.inl (SqL.of h.strL.2)) k
theorem g_joind {a : Str} {ys : List Str} (h : Df W H (.ref p) (.list (ys.map PyData.str))) (z2 : (ys.map (·.length)).sum + ys.length * a.length ≤ 16777216) (k : Q (.str (Txt.join a ys)) H) : dJoin K (.str a) [.ref p] H Q := g_join (Or.inl (SqL.of h.strL.2)) z2 k
/-- a tuple unpacked -/
theorem g_gtupd {n : Nat} {t : TGs} {σ : L2.St} {QS : L2.St → Hp → Prop} (h : Df W H (.ref p) (.tuple ds)) (z : ds.length = n) (k : ∀ xs, DfAll W H xs ds → t xs σ H QS) : gTL K n t (.ref p) σ H QS := by
  obtain ⟨xs, n, hp, r⟩ := h.cellsT
  exact g_gtup (SqT.of hp) (by rw [r.length]; exact z) (k xs r)
theorem g_iLd {Z : Addr → Prop} (z : Df W H (.ref p) (.list ds)) (h : Z p) : ∃ a, L2.V.ref p = .ref a ∧ (∃ xs, SqL K H a xs) ∧ Z a := by
  obtain ⟨xs, n, hp, r⟩ := z.cells
  exact ⟨p, rfl, ⟨xs, SqL.of hp⟩, h⟩
theorem g_iEd {Z : Addr → Prop} (z : Df W H (.ref p) (.list ds)) (h : Z p) : ∃ a xs, [L2.V.ref p] = [.ref a] ∧ SqL K H a xs ∧ Z a := by
  obtain ⟨xs, n, hp, r⟩ := z.cells
  exact ⟨p, xs, rfl, SqL.of hp, h⟩
end
section
variable {W : List Addr} {H H' : Hp} {p : Addr} {vs : List L2.V} {ds : List PyData} {ts : List Str}
theorem new_l (h : upd H p (.lst vs) = H') (hp : H p = none) (r : DfAll W H vs ds) (w : Wl W H) : Ed [] H H' ∧ Df W H' (.ref p) (.list ds) := by
  subst h
  exact ⟨Ed.new hp, .lst (w.not hp) upd_same (r.ed (Ed.new hp) no0)⟩
theorem new_t (h : upd H p (.tup vs) = H') (hp : H p = none) (r : DfAll W H vs ds) (w : Wl W H) : Ed [] H H' ∧ Df W H' (.ref p) (.tuple ds) := by
  subst h
  exact ⟨Ed.new hp, .tup (w.not hp) upd_same (r.ed (Ed.new hp) no0)⟩
theorem new_b (h : upd H p (.lst []) = H') (hp : H p = none) (w : Wl W H) : Ed [] H H' ∧ Bld W H' p [] := by
  subst h
  exact ⟨Ed.new hp, w.not hp, [], upd_same, .nil⟩
theorem new_s (h : upd H p (.lst (ts.map L2.V.str)) = H') (hp : H p = none) (w : Wl W H) : Ed [] H H' ∧ Df W H' (.ref p) (.list (ts.map PyData.str)) := new_l h hp (.strs ts) w
end
/-! ### loops over data -/
section
variable {U W : List Addr} {H H' : Hp} {σ : L2.St} {ds : List PyData} {K : PySem.W.Frag} {p : Addr} {g : TG} {tb : TS} {nx : L2.St → Hp → Prop} {rt : VK} {bk ct : L2.St → Hp → Prop}
theorem lp_df (h : Df W H (.ref p) (.list ds)) (Pv : Nat → L2.St → Hp → Prop) (h0 : Pv 0 σ H) (hk : ∀ i σ' H', i ≤ ds.length → Pv i σ' H' → Ed W H H')
    (hs : ∀ i x d σ' H', ds[i]? = some d → Pv i σ' H' → Df W H' x d → g x σ' H' fun σ2 H2 => tb ⟨Pv (i + 1), rt, nx, Pv (i + 1)⟩ σ2 H2) (hn : ∀ σ' H', Pv ds.length σ' H' → nx σ' H') : Loop (Itl K p) g tb ⟨nx, rt, bk, ct⟩ σ H := by
  obtain ⟨xs, n, hp, r⟩ := h.cells
  refine lp_it (walk_list (xs := xs)) Pv h0 (fun i σ' H' hi hP => SqL.of ((hk i σ' H' (by rw [← r.length]; exact hi) hP).1 _ _ n hp)) ?_ (by rw [r.length]; exact hn)
  rintro i x σ' H' H2 hi hP ⟨rfl, e⟩
  have ee := hk i σ' _ (by rw [← r.length]; omega) hP
  obtain ⟨d, e1, e2⟩ := (r.ed ee fun _ z => z).at' e
  exact hs i x d σ' _ e1 hP e2
variable {tt : TT} {te : TE} {ws : List Nat} {D : Addr} {Qd : Hp → Prop}
/-- a list comprehension: an invariant over what is made so far; J1 of the heap -/
theorem lc_gen {σw : L2.St} (hσ : wipe σ ws = σw) {J : It} {n : Nat} {G : Hp → Prop} {Y : Nat → Hp → L2.V → Hp → Prop} (w : Walk J n G Y) (hn : n < sizeLine) (hD : H D = none) (hw : Wl W H) (hV : ∀ a ∈ U, a ∈ W) (I : Nat → List PyData → Prop) (J1 : Hp → Prop) (hJ : ∀ H' H'', J1 H' → Ed [D] H' H'' → J1 H'') (hJ0 : J1 H) (hI0 : I 0 [])
    (hG : ∀ H', Ed U H H' → G H')
    (hs : ∀ i x acc H' H2 (R : VK) (N : Hp → Prop), i < n → I i acc → J1 H' → Ed U H H' → Wl (D :: W) H' → Y i H' x H2 → (∀ y H4 dy, Ed U H' H4 → Df (D :: W) H4 y dy → J1 H4 → I (i + 1) (acc ++ [dy]) → R y H4) → (∀ H3, Ed U H' H3 → J1 H3 → I (i + 1) acc → N H3) →
      g x σw H2 fun σ2 H2 => wipe σ2 ws = σw ∧ tt σ2 H2 fun b H3 => if b = true then te σ2 H3 R else N H3)
    (hd : ∀ acc H', I n acc → J1 H' → Ed U H H' → Df W H' (.ref D) (.list acc) → acc.length ≤ n → Qd H') : LoopC J g tt te ws σ H D Qd := by
  subst hσ
  have nD : D ∉ U := fun z => hw D (hV D z) hD
  have nDW : D ∉ W := fun z => hw D z hD
  have e0 : ∀ {H1 H2 : Hp} {T : List Addr}, Ed U H H1 → Ed T H1 H2 → (∀ a ∈ T, a ∈ U ∨ a = D) → Ed U H H2 := fun h1 h2 hu => Ed.tr h1 h2 fun a ha => (hu a ha).elim .inl fun z => .inr (z ▸ hD)
  refine lc_by w (fun i H' => ∃ acc, Ed U H H' ∧ J1 H' ∧ I i acc ∧ Bld W H' D acc ∧ acc.length ≤ i) ⟨[], e0 Ed.refl (Ed.new hD) (no0), hJ _ _ hJ0 Ed.put, hI0, ⟨nDW, [], upd_same, .nil⟩, Nat.le_refl _⟩ (fun i H' _ ⟨acc, h1, _⟩ => hG _ h1) ?_ ?_
  · rintro i x H1 H2 hi ⟨acc, h1, h2, h3, h4, h5⟩ hy
    have hD1 : H1 D ≠ none := h4.alive
    refine hs i x acc H1 H2 _ _ hi h3 h2 h1 (fun a ha => ?_) hy ?_ ?_
    · rcases List.mem_cons.mp ha with rfl | ha
      · exact hD1
      · exact hw.ed h1 a ha
    · intro y H4 dy z4 z5 z6 z7
      obtain ⟨m, xs, z8, z9⟩ := h4.ed z4 hV
      exact ⟨xs, z8, by rw [z9.length]; omega, acc ++ [dy], e0 (e0 h1 z4 fun a h => .inl h) Ed.put (fun a h => .inr (List.mem_singleton.mp h)), hJ _ _ z6 Ed.put, z7, ⟨nDW, _, upd_same, (z9.snoc z5).ed Ed.put fun a z => by rw [List.mem_singleton.mp z]; exact List.mem_cons_self ..⟩, by rw [List.length_append, List.length_singleton]; omega⟩
    · intro H3 z3 z4 z5
      exact ⟨acc, e0 h1 z3 fun a h => .inl h, z4, z5, h4.ed z3 hV, by omega⟩
  · rintro H1 ⟨acc, h1, h2, h3, h4, h5⟩
    exact hd acc H1 h3 h2 h1 h4.done h5
/-- over a list of data -/
theorem lc_df {σw : L2.St} (hσ : wipe σ ws = σw) (h : Df W H (.ref p) (.list ds)) (hn : ds.length < sizeLine) (hD : H D = none) (hw : Wl W H) (hV : ∀ a ∈ U, a ∈ W) (I : Nat → List PyData → Prop) (J1 : Hp → Prop) (hJ : ∀ H' H'', J1 H' → Ed [D] H' H'' → J1 H'') (hJ0 : J1 H) (hI0 : I 0 [])
    (hs : ∀ i x d acc H' (R : VK) (N : Hp → Prop), ds[i]? = some d → I i acc → J1 H' → Ed U H H' → Wl (D :: W) H' → Df (D :: W) H' x d → (∀ y H4 dy, Ed U H' H4 → Df (D :: W) H4 y dy → J1 H4 → I (i + 1) (acc ++ [dy]) → R y H4) → (∀ H3, Ed U H' H3 → J1 H3 → I (i + 1) acc → N H3) →
      g x σw H' fun σ2 H2 => wipe σ2 ws = σw ∧ tt σ2 H2 fun b H3 => if b = true then te σ2 H3 R else N H3)
    (hd : ∀ acc H', I ds.length acc → J1 H' → Ed U H H' → Df W H' (.ref D) (.list acc) → acc.length ≤ ds.length → Qd H') : LoopC (Itl K p) g tt te ws σ H D Qd := by
  have h' := h.more hD
  obtain ⟨xs, n, hp, r⟩ := h'.cells
  have hVW : ∀ a ∈ U, a ∈ D :: W := fun a z => List.mem_cons_of_mem _ (hV a z)
  have l := r.length
  refine lc_gen hσ (walk_list (xs := xs)) (by rw [l]; exact hn) hD hw hV I J1 hJ hJ0 hI0 (fun H' e => SqL.of (e.1 _ _ (fun z => n (hVW _ z)) hp)) ?_ (by rw [l]; exact hd)
  rintro i x acc H1 H2 R N hi h1 h2 h3 h4 ⟨rfl, e⟩ h5 h6
  obtain ⟨d, e1, e2⟩ := (r.ed h3 hVW).at' e
  exact hs i x d acc _ R N e1 h1 h2 h3 h4 e2 h5 h6
/-- over enumerate(list) -/
theorem lc_en {σw : L2.St} (hσ : wipe σ ws = σw) (h : Df W H (.ref p) (.list ds)) (hn : ds.length < sizeLine) (hD : H D = none) (hw : Wl W H) (hV : ∀ a ∈ U, a ∈ W) (I : Nat → List PyData → Prop) (J1 : Hp → Prop) (hJ : ∀ H' H'', J1 H' → Ed [D] H' H'' → J1 H'') (hJn : ∀ H' H'', J1 H' → Ed [] H' H'' → J1 H'') (hJ0 : J1 H) (hI0 : I 0 [])
    (hs : ∀ i x t d acc H' (R : VK) (N : Hp → Prop), ds[i]? = some d → I i acc → J1 H' → Ed U H H' → Wl (D :: W) H' → SqT K H' t [.int (i : Nat), x] → Df (D :: W) H' x d → (∀ y H4 dy, Ed U H' H4 → Df (D :: W) H4 y dy → J1 H4 → I (i + 1) (acc ++ [dy]) → R y H4) → (∀ H3, Ed U H' H3 → J1 H3 → I (i + 1) acc → N H3) →
      g (.ref t) σw H' fun σ2 H2 => wipe σ2 ws = σw ∧ tt σ2 H2 fun b H3 => if b = true then te σ2 H3 R else N H3)
    (hd : ∀ acc H', I ds.length acc → J1 H' → Ed U H H' → Df W H' (.ref D) (.list acc) → acc.length ≤ ds.length → Qd H') : LoopC (Ite K p) g tt te ws σ H D Qd := by
  have h' := h.more hD
  obtain ⟨xs, n, hp, r⟩ := h'.cells
  have hVW : ∀ a ∈ U, a ∈ D :: W := fun a z => List.mem_cons_of_mem _ (hV a z)
  have l := r.length
  refine lc_gen hσ (walk_enum (xs := xs)) (by rw [l]; exact hn) hD hw hV I J1 hJ hJ0 hI0 (fun H' e => SqL.of (e.1 _ _ (fun z => n (hVW _ z)) hp)) ?_ (by rw [l]; exact hd)
  rintro i x acc H1 H2 R N hi h1 h2 h3 h4 ⟨t, x1, y1, rfl, ht, rfl, e1, e2⟩ h5 h6
  cases e1
  obtain ⟨d, e3, e4⟩ := (r.ed h3 hVW).at' e2
  have e5 : Ed [] H1 (upd H1 t (.tup [.int (i : Nat), y1])) := Ed.new ht
  exact hs i _ t d acc _ R N e3 h1 (hJn _ _ h2 e5) (h3.tr e5 no0) (h4.ed e5) (SqT.of upd_same) (e4.ed e5 no0) (fun y H4 dy k1 => h5 y H4 dy ((Ed.tr Ed.refl e5 no0).tr k1 fun a z => .inl z)) (fun H3 k1 => h6 H3 ((Ed.tr Ed.refl e5 no0).tr k1 fun a z => .inl z))
end
end NL
namespace NL
open PySem L2
/-- the bag of draws at b: two ints -/
def Bag (H : Hp) (b : Addr) : Prop := ∃ x y : Int, H b = some (.lst [.int x, .int y])
theorem Bag.at {H : Hp} {b : Addr} {x y : Int} : Bag (upd H b (.lst [.int x, .int y])) b := ⟨x, y, upd_same⟩
theorem Bag.new {H : Hp} {b p : Addr} {o : HO} (h : Bag H b) (n : H p = none) : Bag (upd H p o) b := by
  obtain ⟨x, y, e⟩ := h
  exact ⟨x, y, by rw [upd_ne (ne_of_none e n)]; exact e⟩
theorem Bag.put {H : Hp} {b p : Addr} {o : HO} (h : Bag H b) (n : b ≠ p) : Bag (upd H p o) b := by
  obtain ⟨x, y, e⟩ := h
  exact ⟨x, y, by rw [upd_ne n]; exact e⟩
theorem Bag.ne {H : Hp} {b p : Addr} (h : Bag H b) (n : H p = none) : p ≠ b := by
  obtain ⟨x, y, e⟩ := h
  exact (ne_of_none e n).symm
section
variable {U W : List Addr} {H H' : Hp} {b p a : Addr} {ds es : List PyData} {d : PyData} {K : PySem.W.Frag}
theorem Bag.ed (h : Bag H b) (e : Ed U H H') (n : b ∉ U) : Bag H' b := by
  obtain ⟨x, y, q⟩ := h
  exact ⟨x, y, e.1 _ _ n q⟩
theorem Bag.alive (h : Bag H b) : H b ≠ none := by
  obtain ⟨x, y, q⟩ := h
  rw [q]; exact fun z => nomatch z
theorem sub1 (h : b ∈ W) : ∀ a ∈ [b], a ∈ W := fun a z => by rw [List.mem_singleton.mp z]; exact h
theorem subr : ∀ a ∈ W, a ∈ W := fun _ z => z
theorem subc {U : List Addr} (h : ∀ a ∈ U, a ∈ W) : ∀ a ∈ U, a ∈ b :: W := fun a z => List.mem_cons_of_mem _ (h a z)
theorem edv1 (h : b ∈ U ∨ H b = none) : ∀ a ∈ [b], a ∈ U ∨ H a = none := fun a z => by rw [List.mem_singleton.mp z]; exact h
theorem edvl {V : List Addr} (h : ∀ a ∈ V, a ∈ U) : ∀ a ∈ V, a ∈ U ∨ H a = none := fun a z => .inl (h a z)
theorem Wl.cons' (h : H a ≠ none) (r : Wl W H) : Wl (a :: W) H := fun c hc => by
  rcases List.mem_cons.mp hc with rfl | hc
  · exact h
  · exact r c hc
theorem Wl.tail (h : Wl (a :: W) H) : Wl W H := fun c hc => h c (List.mem_cons_of_mem _ hc)
theorem nb_bld (h : Bld W H p ds) (hb : b ∈ W) : b ∉ [p] := fun z => h.1 (by rw [← List.mem_singleton.mp z]; exact hb)
theorem Ed.weak {V : List Addr} (e : Ed U H H') (h : ∀ a ∈ U, a ∈ V) : Ed V H H' := ⟨fun a o n q => e.1 a o (fun z => n (h a z)) q, e.2⟩
end
section
variable {U W : List Addr} {H0 H1 H2 : Hp} {p q b : Addr} {v : V} {d : PyData} {ds : List PyData}
theorem Df.via (e : Ed [p] H1 H2) (hp : H0 p = none) (ed : Ed W H0 H2) (h : Df W H0 v d) : Df W H2 v d := h.ed ed subr
theorem Bld.via (e : Ed [p] H1 H2) (hp : H0 p = none) (ed : Ed W H0 H2) (h : Bld W H0 q ds) : Bld W H2 q ds := h.ed ed subr
theorem Bag.via (e : Ed [p] H1 H2) (hp : H0 p = none) (ed : Ed [] H0 H2) (h : Bag H0 b) : Bag H2 b := h.ed ed List.not_mem_nil
end
/-- what lies in H lies in H' -/
def Al (H H' : Hp) : Prop := ∀ a, H a ≠ none → H' a ≠ none
theorem Al.refl {H : Hp} : Al H H := fun _ h => h
theorem Al.of {U : List Addr} {H0 H1 H2 : Hp} (e : Ed U H1 H2) (h : Al H0 H1) : Al H0 H2 := fun a z => e.2 a (h a z)
theorem Al.free {H H' : Hp} {a : Addr} (e : Al H H') (h : H' a = none) : H a = none := by
  by_cases z : H a = none
  · exact z
  · exact absurd h (e a z)
theorem Sh.strs {xs : List Str} (h : ∀ x ∈ xs, PyData.strOk x = true) : Sh (.list (xs.map PyData.str)) := (Sd.list (n := 0) (Sd.map fun x hx => Sd.str (h x hx))).sh (by decide)
theorem Sh.nil : Sh (.list []) := (Sd.list (n := 0) Sd.nil).sh (by decide)
theorem Sh.ints {xs : List Int} : Sh (.list (xs.map PyData.int)) := (Sd.list (n := 0) (Sd.map fun x hx => Sd.int x)).sh (by decide)
theorem g_tyB {K : PySem.W.Frag} {W : List Addr} {H : Hp} {p : Addr} {ds : List PyData} {R : Prop} (h : Bld W H p ds) (k : R) : tyV K "list" (.ref p) H ∧ R := by
  obtain ⟨_, xs, h, _⟩ := h
  exact g_tyL (SqL.of h) k
theorem g_tyD {K : PySem.W.Frag} {W : List Addr} {H : Hp} {p : Addr} {ds : List PyData} {R : Prop} (h : Df W H (.ref p) (.list ds)) (k : R) : tyV K "list" (.ref p) H ∧ R := by
  obtain ⟨xs, _, h, _⟩ := h.cells
  exact g_tyL (SqL.of h) k
/-! ### more rules -/
section
variable {X : Cx} (K : PySem.W.Frag) {e e2 : Expr} {ta : TA} {p pos tpos : Pos} {elts : List Expr} {kk : Nat}
end
section
variable {U V W : List Addr} {H H' : Hp} {σ : L2.St} {ds es : List PyData} {K : PySem.W.Frag} {p q : Addr} {Q : VK}
theorem g_iZ {ta : TA} {R : It → Hp → Prop} (h : ta σ H fun vs H1 => ∃ a b xs ys, vs = [.ref a, .ref b] ∧ SqL K H1 a xs ∧ SqL K H1 b ys ∧ R (Itz K a b) H1) : iZip K ta σ H R := h
theorem g_iZd {Z : Addr → Addr → Prop} (z1 : Df W H (.ref p) (.list ds)) (z2 : Df W H (.ref q) (.list es)) (h : Z p q) : ∃ a b xs ys, [L2.V.ref p, L2.V.ref q] = [.ref a, .ref b] ∧ SqL K H a xs ∧ SqL K H b ys ∧ Z a b := by
  obtain ⟨xs, n, hp, r⟩ := z1.cells
  obtain ⟨ys, m, hq, t⟩ := z2.cells
  exact ⟨p, q, xs, ys, rfl, SqL.of hp, SqL.of hq, h⟩
variable {g : TG} {tb : TS} {nx : L2.St → Hp → Prop} {rt : VK} {bk ct : L2.St → Hp → Prop}
end
/-! ### a cut: what comes behind an if, once -/
def tSeqC (t u : TS) : TS := tSeq t u
theorem pss_cut {X : Cx} {s : Stmt} {r : List Stmt} {t u : TS} (h1 : PS X s t) (h2 : PSs X r u) : PSs X (s :: r) (tSeqC t u) := pss_cons h1 h2
theorem g_cut {t u : TS} {nx : L2.St → Hp → Prop} {rt : VK} {bk ct : L2.St → Hp → Prop} {σ : L2.St} {H : Hp} (I : L2.St → Hp → Prop) (h1 : ∀ R : L2.St → Hp → Prop, (∀ σ' H', I σ' H' → R σ' H') → t ⟨R, rt, bk, ct⟩ σ H) (h2 : ∀ σ' H', I σ' H' → u ⟨nx, rt, bk, ct⟩ σ' H') : tSeqC t u ⟨nx, rt, bk, ct⟩ σ H := h1 _ h2
theorem g_par {i j : Nat} {ta : TA} {nx : L2.St → Hp → Prop} {rt : VK} {bk ct : L2.St → Hp → Prop} {σ : L2.St} {H : Hp} (h : ta σ H fun vs H1 => ∃ v w, vs = [v, w] ∧ gName i v σ H1 fun σ1 H2 => gName j w σ1 H2 nx) : tPar i j ta ⟨nx, rt, bk, ct⟩ σ H := h
theorem g_par2 {v w : V} {Z : V → V → Prop} (h : Z v w) : ∃ a b, [v, w] = [a, b] ∧ Z a b := ⟨v, w, rfl, h⟩
theorem g_iTd {K : PySem.W.Frag} {W : List Addr} {H : Hp} {p : Addr} {ds : List PyData} {Z : Addr → Prop} (z : Df W H (.ref p) (.tuple ds)) (h : Z p) : ∃ a, V.ref p = .ref a ∧ (∃ xs, SqT K H a xs) ∧ Z a := by
  obtain ⟨xs, n, hp, r⟩ := z.cellsT
  exact ⟨p, rfl, ⟨xs, SqT.of hp⟩, h⟩
theorem g_uncut {t u : TS} {D : Ends} {σ : L2.St} {H : Hp} (h : tSeq t u D σ H) : tSeqC t u D σ H := h
/-! ### dicts of texts -/
section
variable {U W : List Addr} {H H' : Hp} {p : Addr} {K : PySem.W.Frag} {Q : VK}
/-- the dict kvs lies at p, p is not in W -/
def Dk (W : List Addr) (H : Hp) (p : Addr) (kvs : List (Key × V)) : Prop := p ∉ W ∧ H p = some (.dK kvs)
theorem Dk.ed {kvs : List (Key × V)} (h : Dk W H p kvs) (e : Ed U H H') (hv : ∀ a ∈ U, a ∈ W) : Dk W H' p kvs := ⟨h.1, e.1 _ _ (fun z => h.1 (hv _ z)) h.2⟩
theorem Dk.more {kvs : List (Key × V)} {q : Addr} (hq : H q = none) (h : Dk W H p kvs) : Dk (q :: W) H p kvs := ⟨fun z => (List.mem_cons.mp z).elim (ne_of_none h.2 hq) h.1, h.2⟩
theorem Dk.via {kvs : List (Key × V)} {H0 H1 H2 : Hp} {q : Addr} (e : Ed [q] H1 H2) (hq : H0 q = none) (ed : Ed W H0 H2) (h : Dk W H0 p kvs) : Dk W H2 p kvs := h.ed ed subr
theorem Dk.df {kvs : List (Key × V)} (h : Dk W H p kvs) : Df W H (.ref p) (ob p) := .obj h.1 (by rw [h.2]; exact fun z => nomatch z)
theorem Dk.alive {kvs : List (Key × V)} (h : Dk W H p kvs) : H p ≠ none := by rw [h.2]; exact fun z => nomatch z
theorem new_d {kvs : List (Key × V)} {H1 : Hp} (h : upd H' p (.dK kvs) = H1) (w : Wl W H) (hp : H p = none) : Ed [p] H' H1 ∧ Dk W H1 p kvs := by
  subst h
  exact ⟨Ed.put, w.not hp, upd_same⟩
/-- an object made, its __init__ ahead -/
theorem new_i {C x dx : Addr} {H1 : Hp} (h : upd (upd H dx (.own x)) x (.ins C dx []) = H1) (hx : H x = none) (hd : H dx = none) (ne : dx ≠ x) : Ed [] H H1 ∧ H1 x = some (.ins C dx []) := by
  subst h
  refine ⟨⟨fun a o _ e => ?_, fun a z => ?_⟩, upd_same⟩
  · rw [upd_ne (ne_of_none e hx), upd_ne (ne_of_none e hd)]; exact e
  · rw [upd_ne (fun q : a = x => z (by rw [q]; exact hx)), upd_ne (fun q : a = dx => z (by rw [q]; exact hd))]; exact z
theorem g_disp {trs : List (TE × TE)} {σ : L2.St} (h : ∀ p H0, H p = none → Ed [] H H0 → H0 p = some (.dK []) → tPairs trs σ H0 fun ps H2 => H2 p = some (.dK []) ∧ ∃ kvs : List (Key × V), ps = kvs.map (fun kv => (kV kv.1, kv.2)) ∧ kvs.length ≤ 15 ∧ Q (.ref p) (upd H2 p (.dK (mergeK [] kvs)))) : tDisp trs σ H Q :=
  fun p hp => h p _ hp (Ed.new hp) upd_same
theorem g_pr0 {σ : L2.St} {QP : List (V × V) → Hp → Prop} (h : QP [] H) : tPairs [] σ H QP := h
theorem g_pr {σ : L2.St} {tk tv : TE} {trs : List (TE × TE)} {QP : List (V × V) → Hp → Prop} (h : tk σ H fun x H1 => tv σ H1 fun y H2 => tPairs trs σ H2 fun ps H3 => QP ((x, y) :: ps) H3) : tPairs ((tk, tv) :: trs) σ H QP := h
theorem g_din {σ : L2.St} {td ty : TE} (h : ty σ H fun y H1 => td σ H1 fun x H2 => ∃ a o, x = .ref a ∧ DGet H2 a y o ∧ Q (.bl o.isSome) H2) : tDIn ty td σ H Q := h
theorem g_dnin {σ : L2.St} {td ty : TE} (h : ty σ H fun y H1 => td σ H1 fun x H2 => ∃ a o, x = .ref a ∧ DGet H2 a y o ∧ Q (.bl (!o.isSome)) H2) : tDNotIn ty td σ H Q := h
theorem g_dget2 {σ : L2.St} {td ty tx : TE} (h : td σ H fun x H1 => ∃ a, x = .ref a ∧ IsD H1 a ∧ ty σ H1 fun y H2 => tx σ H2 fun z H3 => ∃ o, DGet H3 a y o ∧ Q (o.getD z) H3) : tDGet2 td ty tx σ H Q := h
theorem g_isd {kvs : List (Key × V)} {Z : Addr → Prop} (z1 : Dk W H p kvs) (h : Z p) : ∃ a, V.ref p = .ref a ∧ IsD H a ∧ Z a := ⟨p, rfl, .inl ⟨kvs, .inl z1.2⟩, h⟩
theorem g_dgd {kvs : List (Key × V)} {z : Str} {v : V} {Z : V → Prop} (z1 : Dk W H p kvs) (z2 : valV kvs (.inr z) = some v) (h : Z v) : ∃ a v, V.ref p = .ref a ∧ DGet H a (.str z) (some v) ∧ Z v := g_dgs z1.2 z2 h
end
end NL
namespace NL
open PySem L2
/-! ### a, b, *rest = a list -/
section
variable {X : Cx} {pos p : Pos}
end
/-! ### a class called by a local name -/
section
variable {X : Cx} {k i : Nat} {x m : Str} {C : Addr} {e o : Expr} {es : List Expr} {t : TA} {ta : TE} {p pos apos : Pos} {ps : List Str} {sp : Sp} {W : WX}
def tMakeL (i : Nat) (C : Addr) (sp : Sp) (E : L2.St → XK) (t : TA) : TE := fun σ H Q => σ[i]? = some (some (.ref C)) ∧ tMakeS C sp E t σ H Q
theorem g_makeL {E : L2.St → XK} {σ : L2.St} {H : Hp} {Q : VK} (e1 : σ[i]? = some (some (.ref C))) (h : tMakeS C sp E t σ H Q) : tMakeL i C sp E t σ H Q := ⟨e1, h⟩
/-! ### classmethods -/
structure CmC (P : Program) (w : World) (K : PySem.W.Frag) (mg : Str → Option Value) (base : Heap) (k : Nat) (C : Addr) (m : Str) (ps : List Str) (sp : Sp) : Prop where
  rd : ClX.CRead K C (.type "type")
  fn : ∃ (p g : Addr) (fd : FuncData), ClX.CMet K C (.type "type") m p g ∧ Binds K fd ps [] ∧ FnOk P w K mg base (L2.CX P w) k g fd ps sp
def tCM (C : Addr) (sp : Sp) (E : L2.St → XK) (ta : TE) (t : TA) : TE := fun σ H Q => ta σ H fun x H1 => x = .ref C ∧ t σ H1 fun vs H2 => sp (.ref C :: vs) H2 Q (E σ)
theorem g_cm {E : L2.St → XK} {σ : L2.St} {H : Hp} {Q : VK} (h : ta σ H fun x H1 => x = .ref C ∧ t σ H1 fun vs H2 => sp (.ref C :: vs) H2 Q (E σ)) : tCM C sp E ta t σ H Q := h
end
/-! ### the facts of classmethods; a hook that knows the interpreter's statics -/
inductive Fy where
  | crd (x : Str) | cm (x m : Str)
def Fy.ok (K : PySem.W.Frag) : Fy → Bool
  | .crd x => PySem.W.readsIn K (He.ga K x) (.type "type")
  | .cm x m => He5.wrapB K (He.ga K x) "classmethod" "classmethod.__get__" m && PySem.W.fnIn K (He5.wf K (He.ga K x) "classmethod" m)
def fyB (l : List Fy) (K : PySem.W.Frag) : Bool := l.all fun f => f.ok K
def obsN0 (fn : List He5.DefA) (ex : PySem.W.Frag → Bool) (K : PySem.W.Frag) : He.AlD := (ex K && fn.all fun d => d.ok K, fn.map fun d => He5.fnA K (d.at_ K))
def SaysN (fn : List He5.DefA) (ex : PySem.W.Frag → Bool) (K : PySem.W.Frag) : Prop := obsN0 fn ex K = He5.valA fn
theorem SaysN.more {fn : List He5.DefA} {ex : PySem.W.Frag → Bool} {K : PySem.W.Frag} (c : SaysN fn ex K) : ex K = true := by
  have q : (ex K && fn.all fun d => d.ok K) = true := congrArg (fun z : He.AlD => z.1) c
  rw [Bool.and_eq_true] at q
  exact q.1
theorem SaysN.def_ {fn : List He5.DefA} {ex : PySem.W.Frag → Bool} {K : PySem.W.Frag} (c : SaysN fn ex K) (i : Nat) {d : He5.DefA} (h : fn[i]? = some d := by rfl) : ∃ fd, L2.FunD K d.name d.qual d.params d.body d.scope (d.dvs K) (d.kws K) (d.at_ K) fd := by
  have q : (ex K && fn.all fun d => d.ok K) = true := congrArg (fun z : He.AlD => z.1) c
  rw [Bool.and_eq_true] at q
  have e : fn.map (fun d => He5.fnA K (d.at_ K)) = fn.map He5.DefA.val := congrArg (fun z : He.AlD => z.2) c
  have e2 : (fn.map fun d => He5.fnA K (d.at_ K))[i]? = (fn.map He5.DefA.val)[i]? := by rw [e]
  rw [List.getElem?_map, List.getElem?_map, h] at e2
  exact He5.DefA.funD (Option.some.inj e2) (List.all_eq_true.mp q.2 d (List.mem_of_getElem? h))
/-! ### list(text), tuple(x), dict(d), a, b, c = x, y, z -/
def sgn (x : Str) : List Str := x.cps.toList.map fun c => (⟨#[c]⟩ : Str)
theorem g_par3 {i j l : Nat} {ta : TA} {nx : L2.St → Hp → Prop} {rt : VK} {bk ct : L2.St → Hp → Prop} {σ : L2.St} {H : Hp} (h : ta σ H fun vs H1 => ∃ u v w, vs = [u, v, w] ∧ gName i u σ H1 fun σ1 H2 => gName j v σ1 H2 fun σ2 H3 => gName l w σ2 H3 nx) : tPar3 i j l ta ⟨nx, rt, bk, ct⟩ σ H := h
theorem g_par33 {u v w : V} {Z : V → V → V → Prop} (h : Z u v w) : ∃ a b c, [u, v, w] = [a, b, c] ∧ Z a b c := ⟨u, v, w, rfl, h⟩
theorem g_star {K : PySem.W.Frag} {te : TE} {t : TA} {σ : L2.St} {H : Hp} {QA : List V → Hp → Prop} (h : te σ H fun x H1 => ∃ p xs, x = V.ref p ∧ (SqT K H1 p xs ∨ SqL K H1 p xs) ∧ t σ H1 fun ys H2 => QA (xs ++ ys) H2) : StX.tStar K te t σ H QA := h
end NL
namespace NQ
open PySem L2
/-! ### trees: what a value stands for, without addresses -/
inductive T where
  | non | bl (b : Bool) | int (i : Int) | str (s : Str)
  | lst (ts : List T) | tup (ts : List T) | ctup (ts : List T) | clst (ts : List T)
  | dic (ks : List Key) (ts : List T) | dit (ks : List (List Key)) (ts : List T)
  | ins (c : Str) (fs : List Str) (ts : List T)
  | gl (x : Str) | ty (n : String)
def T.kids : T → List T
  | .lst ts => ts | .tup ts => ts
  | .dic _ ts => ts | .dit _ ts => ts | .ins _ _ ts => ts
  | _ => []
def T.sv : T → V
  | .bl b => .bl b | .int i => .int i | .str s => .str s | .ty n => .ty n
  | _ => .non
/-- a flat scalar -/
def T.isS : T → Bool
  | .non => true | .bl _ => true | .int _ => true | .str s => PyData.strOk s | _ => false
def Cell (K : PySem.W.Frag) (H : Hp) (a : Addr) (t : T) (vs : List V) : Prop := match t with
  | .lst _ => H a = some (.lst vs)
  | .tup _ => H a = some (.tup vs)
  | .dic ks _ => ks.length = vs.length ∧ H a = some (.dK (ks.zip vs))
  | .dit ks _ => ks.length = vs.length ∧ H a = some (.dT (ks.zip vs))
  | .ins c fs _ => fs.length = vs.length ∧ ∃ dx, H a = some (.ins (He.ga K c) dx (fs.zip vs))
  | _ => False
def CellR (K : PySem.W.Frag) (H : Hp) (a : Addr) (t : T) (vs : List V) : Prop := match t with
  | .lst _ => Rd H a (.lst vs)
  | .tup _ => H a = some (.tup vs)
  | .dic ks _ => ks.length = vs.length ∧ Rd H a (.dK (ks.zip vs))
  | .dit ks _ => ks.length = vs.length ∧ Rd H a (.dT (ks.zip vs))
  | .ins c fs _ => fs.length = vs.length ∧ ∃ dx, H a = some (.ins (He.ga K c) dx (fs.zip vs))
  | _ => False
def Sc (K : PySem.W.Frag) (v : V) (t : T) : Prop := match t with
  | .non => v = .non
  | .bl b => v = .bl b
  | .int i => v = .int i
  | .str s => v = .str s ∧ PyData.strOk s = true
  | .gl x => v = .ref (He.ga K x)
  | .ty n => v = .ty n
  | .ctup ts => ∃ a, v = .ref a ∧ (∀ H : Hp, SqT K H a (ts.map T.sv)) ∧ ts.all T.isS = true
  | .clst ts => ∃ a, v = .ref a ∧ (∀ H : Hp, SqL K H a (ts.map T.sv)) ∧ ts.all T.isS = true
  | _ => False
/-! ### edges by predicates -/
/-- something lies at a, and no tuple -/
def NT (H : Hp) (a : Addr) : Prop := H a ≠ none ∧ ∀ xs, H a ≠ some (.tup xs)
def EdP (U : Addr → Prop) (H H' : Hp) : Prop := (∀ a o, ¬ U a → H a = some o → H' a = some o) ∧ (∀ a, H a ≠ none → H' a ≠ none) ∧ ∀ a, NT H a → NT H' a
abbrev noA : Addr → Prop := fun _ => False
def Xt (U U' : Addr → Prop) (H H' : Hp) : Prop := EdP U H H' ∧ ∀ a, U' a → U a ∨ H a = none
section
variable {U U' V' : Addr → Prop} {H H' H0 H1 H2 : Hp} {a p : Addr} {o : HO}
theorem NT.upd (ho : ∀ xs, o ≠ .tup xs := by exact fun _ z => nomatch z) : NT (upd H p o) p := by
  unfold NT
  rw [upd_same]
  exact ⟨(fun z => nomatch z), fun xs z => ho xs (Option.some.inj z)⟩
theorem NT.eq (h : NT H a) (e : H' a = H a) : NT H' a := by unfold NT; rw [e]; exact h
theorem NT.of {u : HO} (e : H a = some u) (ho : ∀ xs, u ≠ .tup xs := by exact fun _ z => nomatch z) : NT H a := by
  unfold NT
  rw [e]
  exact ⟨(fun z => nomatch z), fun xs z => ho xs (Option.some.inj z)⟩
theorem EdP.refl : EdP U H H := ⟨fun _ _ _ e => e, fun _ h => h, fun _ h => h⟩
theorem EdP.free (e : EdP U H H') (h : H' a = none) : H a = none := by
  by_cases z : H a = none
  · exact z
  · exact absurd h (e.2.1 a z)
theorem EdP.tr (h1 : EdP U H0 H1) (h2 : EdP U' H1 H2) (hv : ∀ a, U' a → U a ∨ H0 a = none) : EdP U H0 H2 :=
  ⟨fun a o n e => h2.1 a o (fun z => (hv a z).elim n (fun q => by rw [q] at e; cases e)) (h1.1 a o n e), fun a h => h2.2.1 a (h1.2.1 a h), fun a h => h2.2.2 a (h1.2.2 a h)⟩
theorem EdP.weak (h : EdP U H H') (hv : ∀ a, U a → U' a) : EdP U' H H' := ⟨fun a o n e => h.1 a o (fun z => n (hv a z)) e, h.2⟩
theorem EdP.new (hp : H p = none) : EdP noA H (upd H p o) := ⟨fun a u _ e => by rw [upd_ne (ne_of_none e hp)]; exact e, fun a h => by
  rw [upd_ne (fun z : a = p => h (by rw [z]; exact hp))]; exact h, fun a h => by
  unfold NT
  rw [upd_ne (fun z : a = p => h.1 (by rw [z]; exact hp))]; exact h⟩
theorem EdP.put (ho : ∀ xs, o ≠ .tup xs := by exact fun _ z => nomatch z) : EdP (fun a => a = p) H (upd H p o) := ⟨fun a u n e => by rw [upd_ne n]; exact e, fun a h => by
  by_cases z : a = p
  · rw [z, upd_same]; exact fun z => nomatch z
  · rw [upd_ne z]; exact h, fun a h => by
  unfold NT
  by_cases z : a = p
  · rw [z, upd_same]; exact ⟨(fun z => nomatch z), fun xs z => ho xs (Option.some.inj z)⟩
  · rw [upd_ne z]; exact h⟩
theorem EdP.ed {L : List Addr} (h : NL.Ed L H H') (hn : ∀ a ∈ L, NT H a → NT H' a) : EdP (fun a => a ∈ L) H H' := ⟨fun a o n e => h.1 a o n e, h.2, fun a k => by
  by_cases z : a ∈ L
  · exact hn a z k
  · cases q : H a with
    | none => exact absurd q k.1
    | some o =>
      unfold NT
      rw [h.1 a o z q, ← q]
      exact k⟩
theorem Xt.refl : Xt U U H H := ⟨.refl, fun _ h => .inl h⟩
theorem Xt.tr (h1 : Xt U U' H0 H1) (h2 : Xt U' V' H1 H2) : Xt U V' H0 H2 :=
  ⟨h1.1.tr h2.1 h1.2, fun a z => (h2.2 a z).elim (fun q => h1.2 a q) fun q => .inr (h1.1.free q)⟩
theorem Xt.ed0 (h1 : Xt U U' H0 H1) (h2 : EdP noA H1 H2) : Xt U U' H0 H2 := ⟨h1.1.tr h2 fun _ z => z.elim, h1.2⟩
theorem EdP.xt0 (h2 : EdP noA H1 H2) : Xt U U H1 H2 := ⟨h2.weak fun _ z => z.elim, fun _ z => .inl z⟩
end
/-! ### frozen data: nothing of it lies in G -/
mutual
inductive Df (K : PySem.W.Frag) (G : Addr → Prop) (H : Hp) : V → T → Prop
  | sc {v : V} {t : T} : Sc K v t → Df K G H v t
  | nd {a : Addr} {t : T} {vs : List V} : ¬ G a → CellR K H a t vs → DfL K G H vs t.kids → Df K G H (.ref a) t
inductive DfL (K : PySem.W.Frag) (G : Addr → Prop) (H : Hp) : List V → List T → Prop
  | nil : DfL K G H [] []
  | cons {v : V} {t : T} {vs : List V} {ts : List T} : Df K G H v t → DfL K G H vs ts → DfL K G H (v :: vs) (t :: ts)
end
theorem rd_alive {H : Hp} {a : Addr} {u : HO} (h : Rd H a u) : H a ≠ none := by
  rcases h with h | ⟨_, h⟩ <;> rw [h] <;> exact fun z => nomatch z
theorem rd_keep {H H' : Hp} {a : Addr} {u : HO} (k : ∀ o, H a = some o → H' a = some o) (h : Rd H a u) : Rd H' a u := by
  rcases h with h | ⟨o, h⟩
  · exact .inl (k _ h)
  · exact .inr ⟨o, k _ h⟩
theorem CellR.alive {K : PySem.W.Frag} {H : Hp} {a : Addr} {t : T} {vs : List V} (h : CellR K H a t vs) : H a ≠ none := by
  unfold CellR at h
  split at h
  · exact rd_alive h
  · rw [h]; exact fun z => nomatch z
  · exact rd_alive h.2
  · exact rd_alive h.2
  · obtain ⟨_, _, h⟩ := h; rw [h]; exact fun z => nomatch z
  · exact h.elim
theorem Cell.r {K : PySem.W.Frag} {H : Hp} {a : Addr} {t : T} {vs : List V} (h : Cell K H a t vs) : CellR K H a t vs := by
  cases t <;> first
    | exact Or.inl h
    | exact ⟨h.1, Or.inl h.2⟩
    | exact h
theorem CellR.keep {K : PySem.W.Frag} {H H' : Hp} {a : Addr} {t : T} {vs : List V} (k : ∀ o, H a = some o → H' a = some o) (h : CellR K H a t vs) : CellR K H' a t vs := by
  unfold CellR at h ⊢
  split at h
  · exact rd_keep k h
  · exact k _ h
  · exact ⟨h.1, rd_keep k h.2⟩
  · exact ⟨h.1, rd_keep k h.2⟩
  · obtain ⟨h0, dx, h⟩ := h; exact ⟨h0, dx, k _ h⟩
  · exact h.elim
theorem Cell.keep {K : PySem.W.Frag} {H H' : Hp} {a : Addr} {t : T} {vs : List V} (k : ∀ o, H a = some o → H' a = some o) (h : Cell K H a t vs) : Cell K H' a t vs := by
  unfold Cell at h ⊢
  split at h
  · exact k _ h
  · exact k _ h
  · exact ⟨h.1, k _ h.2⟩
  · exact ⟨h.1, k _ h.2⟩
  · obtain ⟨h0, dx, h⟩ := h; exact ⟨h0, dx, k _ h⟩
  · exact h.elim
section
variable {K : PySem.W.Frag} {G G' U : Addr → Prop} {H H' : Hp}
mutual
theorem Df.step (e : EdP U H H') (hu : ∀ a, U a → G a ∨ H a = none) (hg : ∀ a, G' a → G a ∨ H a = none) : ∀ {v : V} {t : T}, Df K G H v t → Df K G' H' v t
  | _, _, .sc h => .sc h
  | _, _, .nd n c r => .nd (fun z => (hg _ z).elim n fun q => c.alive q) (c.keep fun o q => e.1 _ _ (fun z => (hu _ z).elim n fun w => c.alive w) q) (DfL.step e hu hg r)
theorem DfL.step (e : EdP U H H') (hu : ∀ a, U a → G a ∨ H a = none) (hg : ∀ a, G' a → G a ∨ H a = none) : ∀ {vs : List V} {ts : List T}, DfL K G H vs ts → DfL K G' H' vs ts
  | _, _, .nil => .nil
  | _, _, .cons h r => .cons (Df.step e hu hg h) (DfL.step e hu hg r)
end
theorem Df.weak {v : V} {t : T} (hg : ∀ a, G' a → G a) (h : Df K G H v t) : Df K G' H v t := h.step (U := noA) .refl (fun _ z => z.elim) fun a z => .inl (hg a z)
theorem DfL.weak {v : List V} {t : List T} (hg : ∀ a, G' a → G a) (h : DfL K G H v t) : DfL K G' H v t := h.step (U := noA) .refl (fun _ z => z.elim) fun a z => .inl (hg a z)
theorem Df.ed0 {v : V} {t : T} (e : EdP noA H H') (h : Df K G H v t) : Df K G H' v t := h.step e (fun _ z => z.elim) fun a z => .inl z
theorem DfL.ed0 {v : List V} {t : List T} (e : EdP noA H H') (h : DfL K G H v t) : DfL K G H' v t := h.step e (fun _ z => z.elim) fun a z => .inl z
theorem DfL.length : ∀ {vs : List V} {ts : List T}, DfL K G H vs ts → vs.length = ts.length
  | _, _, .nil => rfl
  | _, _, .cons _ r => by rw [List.length_cons, List.length_cons, DfL.length r]
theorem DfL.at : ∀ {vs : List V} {ts : List T} {i : Nat} {t : T}, DfL K G H vs ts → ts[i]? = some t → ∃ v, vs[i]? = some v ∧ Df K G H v t
  | _, _, _, _, .nil, e => by simp at e
  | _, _, 0, _, .cons h _, e => by simp at e; subst e; exact ⟨_, rfl, h⟩
  | _, _, i + 1, _, .cons _ r, e => by
    obtain ⟨v, h1, h2⟩ := DfL.at r (i := i) (by simpa using e)
    exact ⟨v, by simpa using h1, h2⟩
theorem DfL.at' : ∀ {vs : List V} {ts : List T} {i : Nat} {v : V}, DfL K G H vs ts → vs[i]? = some v → ∃ t, ts[i]? = some t ∧ Df K G H v t
  | _, _, _, _, .nil, e => by simp at e
  | _, _, 0, _, .cons h _, e => by simp at e; subst e; exact ⟨_, rfl, h⟩
  | _, _, i + 1, _, .cons _ r, e => by
    obtain ⟨v, h1, h2⟩ := DfL.at' r (i := i) (by simpa using e)
    exact ⟨v, by simpa using h1, h2⟩
theorem DfL.app : ∀ {vs ws : List V} {ts us : List T}, DfL K G H vs ts → DfL K G H ws us → DfL K G H (vs ++ ws) (ts ++ us)
  | _, _, _, _, .nil, h => h
  | _, _, _, _, .cons h r, q => .cons h (DfL.app r q)
theorem DfL.drop : ∀ {vs : List V} {ts : List T} (n : Nat), DfL K G H vs ts → DfL K G H (vs.drop n) (ts.drop n)
  | _, _, 0, h => h
  | _, _, _ + 1, .nil => .nil
  | _, _, n + 1, .cons _ r => DfL.drop n r
theorem DfL.take : ∀ {vs : List V} {ts : List T} (n : Nat), DfL K G H vs ts → DfL K G H (vs.take n) (ts.take n)
  | _, _, 0, _ => .nil
  | _, _, _ + 1, .nil => .nil
  | _, _, n + 1, .cons h r => .cons h (DfL.take n r)
theorem DfL.set {v : V} {t : T} (h : Df K G H v t) : ∀ {vs : List V} {ts : List T} (n : Nat), DfL K G H vs ts → DfL K G H (vs.set n v) (ts.set n t)
  | _, _, _, .nil => .nil
  | _, _, 0, .cons _ r => .cons h r
  | _, _, n + 1, .cons q r => .cons q (DfL.set h n r)
theorem DfL.sv : ∀ {ts : List T}, ts.all T.isS = true → DfL K G H (ts.map T.sv) ts
  | [], _ => .nil
  | t :: r, h => by
    rw [List.all_cons, Bool.and_eq_true] at h
    refine .cons (.sc ?_) (DfL.sv h.2)
    cases t <;> first
      | rfl
      | exact ⟨rfl, h.1⟩
      | exact absurd h.1 Bool.false_ne_true
theorem DfL.svs : ∀ {ts : List T} {vs : List V}, DfL K G H vs ts → ts.all T.isS = true → vs = ts.map T.sv
  | [], _, .nil, _ => rfl
  | t :: r, _, .cons h q, z => by
    rw [List.all_cons, Bool.and_eq_true] at z
    rw [DfL.svs q z.2]
    cases h with
    | sc h =>
      cases t <;> first
        | (cases h; rfl)
        | (obtain ⟨rfl, _⟩ := h; rfl)
        | exact absurd z.1 Bool.false_ne_true
    | nd n c _ =>
      cases t <;> first
        | exact absurd z.1 Bool.false_ne_true
        | exact c.elim
end
/-! ### owned trees: all their own places are told, no two alike -/
inductive Sh where
  | fz | all (s : Sh) | flds (d : List (Str × Sh)) | row (ss : List Sh) | opt (s : Sh)
  /-- lent: it is read only, and lies apart from what is one's own -/
  | vw
  /-- a caught exception at a, its field f in d -/
  | xc (a d : Addr) (c f : Str)
def Sh.pln : Sh → Bool
  | .vw => false
  | .xc .. => false
  | _ => true
def Sh.nxc : Sh → Bool
  | .xc .. => false
  | _ => true
def Sh.kids (s : Sh) (t : T) : Option (List Sh) := match s, t with
  | .all s, .lst ts => some (ts.map fun _ => s)
  | .all s, .dic _ ts => some (ts.map fun _ => s)
  | .all s, .dit _ ts => some (ts.map fun _ => s)
  | .flds d, .ins _ fs _ => some (fs.map fun f => (d.lookup f).getD .fz)
  | .row ss, .lst _ => some ss
  | _, _ => none
mutual
inductive Ow (K : PySem.W.Frag) (G : Addr → Prop) (H : Hp) : Sh → List Addr → V → T → Prop
  | fz {v : V} {t : T} : Df K G H v t → Ow K G H .fz [] v t
  | nd {s : Sh} {a : Addr} {F : List Addr} {t : T} {vs : List V} {ss : List Sh} : Cell K H a t vs → s.kids t = some ss → OwL K G H ss F vs t.kids → Ow K G H s (a :: F) (.ref a) t
  | optN {s : Sh} : Ow K G H (.opt s) [] .non .non
  | optS {s : Sh} {F : List Addr} {v : V} {t : T} : Ow K G H s F v t → Ow K G H (.opt s) F v t
inductive OwL (K : PySem.W.Frag) (G : Addr → Prop) (H : Hp) : List Sh → List Addr → List V → List T → Prop
  | nil : OwL K G H [] [] [] []
  | cons {s : Sh} {ss : List Sh} {F F' : List Addr} {v : V} {t : T} {vs : List V} {ts : List T} : Ow K G H s F v t → OwL K G H ss F' vs ts → OwL K G H (s :: ss) (F ++ F') (v :: vs) (t :: ts)
end
section
variable {K : PySem.W.Frag} {G G' U : Addr → Prop} {H H' : Hp}
mutual
theorem Ow.step (e : EdP U H H') (hu : ∀ a, U a → G a ∨ H a = none) (hg : ∀ a, G' a → G a ∨ H a = none) : ∀ {s : Sh} {F : List Addr} {v : V} {t : T}, (∀ a ∈ F, ¬ U a) → Ow K G H s F v t → Ow K G' H' s F v t
  | _, _, _, _, _, .fz h => .fz (h.step e hu hg)
  | _, _, _, _, n, .nd c k r => .nd (c.keep fun o q => e.1 _ _ (n _ (List.mem_cons_self ..)) q) k (OwL.step e hu hg (fun a z => n a (List.mem_cons_of_mem _ z)) r)
  | _, _, _, _, _, .optN => .optN
  | _, _, _, _, n, .optS h => .optS (Ow.step e hu hg n h)
theorem OwL.step (e : EdP U H H') (hu : ∀ a, U a → G a ∨ H a = none) (hg : ∀ a, G' a → G a ∨ H a = none) : ∀ {ss : List Sh} {F : List Addr} {vs : List V} {ts : List T}, (∀ a ∈ F, ¬ U a) → OwL K G H ss F vs ts → OwL K G' H' ss F vs ts
  | _, _, _, _, _, .nil => .nil
  | _, _, _, _, n, .cons h r => .cons (Ow.step e hu hg (fun a z => n a (List.mem_append_left _ z)) h) (OwL.step e hu hg (fun a z => n a (List.mem_append_right _ z)) r)
end
mutual
theorem Ow.alive : ∀ {s : Sh} {F : List Addr} {v : V} {t : T}, Ow K G H s F v t → ∀ a ∈ F, H a ≠ none
  | _, _, _, _, .fz _, _, z => absurd z List.not_mem_nil
  | _, _, _, _, .nd c _ r, b, z => (List.mem_cons.mp z).elim (fun q => by rw [q]; exact c.r.alive) fun q => OwL.alive r b q
  | _, _, _, _, .optN, _, z => absurd z List.not_mem_nil
  | _, _, _, _, .optS h, a, z => Ow.alive h a z
theorem OwL.alive : ∀ {ss : List Sh} {F : List Addr} {vs : List V} {ts : List T}, OwL K G H ss F vs ts → ∀ a ∈ F, H a ≠ none
  | _, _, _, _, .nil, _, z => absurd z List.not_mem_nil
  | _, _, _, _, .cons h r, a, z => (List.mem_append.mp z).elim (fun q => Ow.alive h a q) fun q => OwL.alive r a q
end
theorem Cell.nt {a : Addr} {s : Sh} {t : T} {vs : List V} {ss : List Sh} (h : Cell K H a t vs) (k : s.kids t = some ss) : NT H a := by
  refine ⟨h.r.alive, fun xs z => ?_⟩
  unfold Sh.kids at k
  split at k
  · have h : H a = _ := h
    rw [z] at h; cases h
  · have h : H a = _ := h.2
    rw [z] at h; cases h
  · have h : H a = _ := h.2
    rw [z] at h; cases h
  · obtain ⟨_, dx, h⟩ := h
    rw [z] at h; cases h
  · have h : H a = _ := h
    rw [z] at h; cases h
  · cases k
mutual
theorem Ow.nt : ∀ {s : Sh} {F : List Addr} {v : V} {t : T}, Ow K G H s F v t → ∀ a ∈ F, NT H a
  | _, _, _, _, .fz _, _, z => absurd z List.not_mem_nil
  | _, _, _, _, .nd c k r, b, z => (List.mem_cons.mp z).elim (fun q => by rw [q]; exact c.nt k) fun q => OwL.nt r b q
  | _, _, _, _, .optN, _, z => absurd z List.not_mem_nil
  | _, _, _, _, .optS h, a, z => Ow.nt h a z
theorem OwL.nt : ∀ {ss : List Sh} {F : List Addr} {vs : List V} {ts : List T}, OwL K G H ss F vs ts → ∀ a ∈ F, NT H a
  | _, _, _, _, .nil, _, z => absurd z List.not_mem_nil
  | _, _, _, _, .cons h r, a, z => (List.mem_append.mp z).elim (fun q => Ow.nt h a q) fun q => OwL.nt r a q
end
mutual
theorem Ow.freeze : ∀ {s : Sh} {F : List Addr} {v : V} {t : T}, (∀ a, G' a → G a ∧ a ∉ F) → Ow K G H s F v t → Df K G' H v t
  | _, _, _, _, n, .fz h => h.weak fun a z => (n a z).1
  | _, _, _, _, n, .nd c _ r => .nd (fun z => (n _ z).2 (List.mem_cons_self ..)) c.r (OwL.freeze (fun a z => ⟨(n a z).1, fun q => (n a z).2 (List.mem_cons_of_mem _ q)⟩) r)
  | _, _, _, _, _, .optN => .sc rfl
  | _, _, _, _, n, .optS h => Ow.freeze n h
theorem OwL.freeze : ∀ {ss : List Sh} {F : List Addr} {vs : List V} {ts : List T}, (∀ a, G' a → G a ∧ a ∉ F) → OwL K G H ss F vs ts → DfL K G' H vs ts
  | _, _, _, _, _, .nil => .nil
  | _, _, _, _, n, .cons h r => .cons (Ow.freeze (fun a z => ⟨(n a z).1, fun q => (n a z).2 (List.mem_append_left _ q)⟩) h) (OwL.freeze (fun a z => ⟨(n a z).1, fun q => (n a z).2 (List.mem_append_right _ q)⟩) r)
end
theorem Ow.weak {s : Sh} {F : List Addr} {v : V} {t : T} (hg : ∀ a, G' a → G a) (h : Ow K G H s F v t) : Ow K G' H s F v t := h.step (U := noA) .refl (fun _ z => z.elim) (fun a z => .inl (hg a z)) fun _ _ z => z.elim
theorem Ow.ed0 {s : Sh} {F : List Addr} {v : V} {t : T} (e : EdP noA H H') (h : Ow K G H s F v t) : Ow K G H' s F v t := h.step e (fun _ z => z.elim) (fun a z => .inl z) fun _ _ z => z.elim
theorem Ow.df {F : List Addr} {v : V} {t : T} (h : Ow K G H .fz F v t) : Df K G H v t ∧ F = [] := by
  cases h with
  | fz h => exact ⟨h, rfl⟩
  | nd c k r => simp [Sh.kids] at k
theorem OwL.df : ∀ {ts : List T} {vs : List V} {F : List Addr}, OwL K G H (ts.map fun _ => .fz) F vs ts → DfL K G H vs ts ∧ F = []
  | [], _, _, .nil => ⟨.nil, rfl⟩
  | t :: r, _, _, .cons h q => by
    obtain ⟨h1, rfl⟩ := h.df
    obtain ⟨h2, rfl⟩ := OwL.df q
    exact ⟨.cons h1 h2, rfl⟩
end
/-! ### what a value stands for, wherever it lies -/
mutual
inductive Rp (K : PySem.W.Frag) (H : Hp) : V → T → Prop
  | sc {v : V} {t : T} : Sc K v t → Rp K H v t
  | nd {a : Addr} {t : T} {vs : List V} : CellR K H a t vs → RpL K H vs t.kids → Rp K H (.ref a) t
inductive RpL (K : PySem.W.Frag) (H : Hp) : List V → List T → Prop
  | nil : RpL K H [] []
  | cons {v : V} {t : T} {vs : List V} {ts : List T} : Rp K H v t → RpL K H vs ts → RpL K H (v :: vs) (t :: ts)
end
section
variable {K : PySem.W.Frag} {G : Addr → Prop} {H H' : Hp}
mutual
theorem Df.rp : ∀ {v : V} {t : T}, Df K G H v t → Rp K H v t
  | _, _, .sc h => .sc h
  | _, _, .nd _ c r => .nd c (DfL.rp r)
theorem DfL.rp : ∀ {vs : List V} {ts : List T}, DfL K G H vs ts → RpL K H vs ts
  | _, _, .nil => .nil
  | _, _, .cons h r => .cons (Df.rp h) (DfL.rp r)
end
mutual
theorem Ow.rp : ∀ {s : Sh} {F : List Addr} {v : V} {t : T}, Ow K G H s F v t → Rp K H v t
  | _, _, _, _, .fz h => h.rp
  | _, _, _, _, .nd c _ r => .nd c.r (OwL.rp r)
  | _, _, _, _, .optN => .sc rfl
  | _, _, _, _, .optS h => Ow.rp h
theorem OwL.rp : ∀ {ss : List Sh} {F : List Addr} {vs : List V} {ts : List T}, OwL K G H ss F vs ts → RpL K H vs ts
  | _, _, _, _, .nil => .nil
  | _, _, _, _, .cons h r => .cons (Ow.rp h) (OwL.rp r)
end
theorem RpL.length : ∀ {vs : List V} {ts : List T}, RpL K H vs ts → vs.length = ts.length
  | _, _, .nil => rfl
  | _, _, .cons _ r => by rw [List.length_cons, List.length_cons, RpL.length r]
theorem Rp.isS {v : V} {t : T} (h : Rp K H v t) (z : t.isS = true) : v = t.sv := by
  cases h with
  | sc h =>
    cases t <;> first
      | (cases h; rfl)
      | (obtain ⟨rfl, _⟩ := h; rfl)
      | exact absurd z Bool.false_ne_true
  | nd c _ =>
    cases t <;> first
      | exact absurd z Bool.false_ne_true
      | exact c.elim
theorem Df.isS {v : V} {t : T} (h : Rp K H v t) (z : t.isS = true) : Df K G H v t := by
  cases h with
  | sc h => exact .sc h
  | nd c _ =>
    cases t <;> first
      | exact absurd z Bool.false_ne_true
      | exact c.elim
theorem RpL.svs : ∀ {ts : List T} {vs : List V}, RpL K H vs ts → ts.all T.isS = true → vs = ts.map T.sv
  | [], _, .nil, _ => rfl
  | t :: r, _, .cons h q, z => by
    rw [List.all_cons, Bool.and_eq_true] at z
    rw [RpL.svs q z.2, h.isS z.1]
    rfl
end
/-! ### a view: it may be read; what lies in it is frozen -/
def Vw (K : PySem.W.Frag) (G : Addr → Prop) (H : Hp) (v : V) (t : T) : Prop := Sc K v t ∨ ∃ a vs, v = .ref a ∧ CellR K H a t vs ∧ DfL K G H vs t.kids
theorem Vw.rp {K : PySem.W.Frag} {G : Addr → Prop} {H : Hp} {v : V} {t : T} (h : Vw K G H v t) : Rp K H v t := by
  rcases h with h | ⟨a, vs, rfl, c, r⟩
  · exact .sc h
  · exact .nd c r.rp
theorem Df.vw {K : PySem.W.Frag} {G : Addr → Prop} {H : Hp} {v : V} {t : T} (h : Df K G H v t) : Vw K G H v t := by
  cases h with
  | sc h => exact .inl h
  | nd n c r => exact .inr ⟨_, _, rfl, c, r⟩
/-- shapes whose parts are all frozen -/
def Sh.flat : Sh → Bool
  | .fz => true
  | .all .fz => true
  | .opt (.all .fz) => true
  | .flds d => d.all fun p => match p.2 with | .fz => true | _ => false
  | .row ss => ss.all fun s => match s with | .fz => true | _ => false
  | _ => false
theorem OwL.flat {K : PySem.W.Frag} {G : Addr → Prop} {H : Hp} : ∀ {ss : List Sh} {ts : List T} {vs : List V} {F : List Addr}, (∀ s ∈ ss, s = .fz) → OwL K G H ss F vs ts → DfL K G H vs ts
  | _, _, _, _, _, .nil => .nil
  | _, _, _, _, n, .cons h q => by
    have e := n _ (List.mem_cons_self ..)
    subst e
    exact .cons h.df.1 (OwL.flat (fun s z => n s (List.mem_cons_of_mem _ z)) q)
theorem lookup_mem {α : Type} {d : List (Str × α)} {f : Str} {s : α} (h : d.lookup f = some s) : ∃ p ∈ d, p.2 = s := by
  induction d with
  | nil => simp at h
  | cons p r ih =>
    obtain ⟨a, b⟩ := p
    rw [List.lookup_cons] at h
    split at h
    · cases h; exact ⟨_, List.mem_cons_self .., rfl⟩
    · obtain ⟨q, h1, h2⟩ := ih h
      exact ⟨q, List.mem_cons_of_mem _ h1, h2⟩
theorem Ow.vw {K : PySem.W.Frag} {G : Addr → Prop} {H : Hp} : ∀ {s : Sh} {F : List Addr} {v : V} {t : T}, s.flat = true → Ow K G H s F v t → Vw K G H v t
  | _, _, _, _, _, .fz h => h.vw
  | s, _, _, t, f, .nd c k r => by
    refine .inr ⟨_, _, rfl, c.r, r.flat fun s' hs' => ?_⟩
    unfold Sh.kids at k
    unfold Sh.flat at f
    split at k <;> cases k
    · simp only [List.mem_map] at hs'
      obtain ⟨_, _, rfl⟩ := hs'
      split at f <;> first | rfl | simp_all
    · simp only [List.mem_map] at hs'
      obtain ⟨_, _, rfl⟩ := hs'
      split at f <;> first | rfl | simp_all
    · simp only [List.mem_map] at hs'
      obtain ⟨_, _, rfl⟩ := hs'
      split at f <;> first | rfl | simp_all
    · simp only [List.mem_map] at hs'
      obtain ⟨g, _, rfl⟩ := hs'
      rename_i d _ _ _ _
      simp only [List.all_eq_true] at f
      cases q : d.lookup g with
      | none => rfl
      | some s' =>
        obtain ⟨p, h1, h2⟩ := lookup_mem q
        have := f p h1
        rw [h2] at this
        show s' = .fz
        cases s' <;> simp_all
    · simp only [List.all_eq_true] at f
      have := f s' hs'
      cases s' <;> simp_all
  | _, _, _, _, _, .optN => .inl rfl
  | .opt s, _, _, _, f, .optS h => by
    refine Ow.vw ?_ h
    unfold Sh.flat at f
    split at f <;> first | rfl | simp_all [Sh.flat]
end NQ
namespace NQ
open PySem L2
/-! ### slots as trees; outcomes -/
structure Xn where
  cls : Str
  fld : Str
  val : T
abbrev Dl := List (Option T)
abbrev Rs := Option (Except Xn T × Dl)
def dAt : Dl → Nat → Option T
  | [], _ => none
  | x :: _, 0 => x
  | _ :: r, i + 1 => dAt r i
theorem dAt_set_eq : ∀ {δ : Dl} {i : Nat} {t : Option T} {u : T}, dAt (δ.set i t) i = some u → t = some u
  | [], _, _, _, h => by cases h
  | _ :: _, 0, _, _, h => h
  | _ :: r, i + 1, _, _, h => dAt_set_eq (δ := r) h
theorem dAt_set_ne : ∀ {δ : Dl} {i j : Nat} {t : Option T}, j ≠ i → dAt (δ.set i t) j = dAt δ j
  | [], _, _, _, _ => rfl
  | _ :: _, 0, 0, _, h => absurd rfl h
  | _ :: _, 0, _ + 1, _, _ => rfl
  | _ :: _, _ + 1, 0, _, _ => rfl
  | _ :: r, i + 1, j + 1, _, h => dAt_set_ne (δ := r) fun z => h (by rw [z])
theorem dAt_lt : ∀ {δ : Dl} {i : Nat} {u : T}, dAt δ i = some u → i < δ.length
  | [], _, _, h => by cases h
  | _ :: _, 0, _, _ => Nat.succ_pos _
  | _ :: r, i + 1, _, h => Nat.succ_lt_succ (dAt_lt (δ := r) h)
theorem dAt_set_self : ∀ {δ : Dl} {i : Nat} {t : T}, i < δ.length → dAt (δ.set i (some t)) i = some t
  | [], _, _, h => absurd h (Nat.not_lt_zero _)
  | _ :: _, 0, _, _ => rfl
  | _ :: r, i + 1, _, h => dAt_set_self (δ := r) (Nat.lt_of_succ_lt_succ h)
/-- one's own; with what is held meanwhile; with what others may change -/
def Om (Fm : Nat → List Addr) : Addr → Prop := fun a => ∃ i, a ∈ Fm i
def Gm (X : List Addr) (Fm : Nat → List Addr) : Addr → Prop := fun a => a ∈ X ∨ Om Fm a
def Gw (X : List Addr) (Fm : Nat → List Addr) (W : Addr → Prop) : Addr → Prop := fun a => Gm X Fm a ∨ W a
/-- what a slot of the shape s holds: of one's own, frozen, or lent -/
def Xs (K : PySem.W.Frag) (G : Addr → Prop) (H : Hp) (s : Sh) (F : List Addr) (v : V) (t : T) : Prop := F = [] ∧ ∃ a d c f u, s = .xc a d c f ∧ v = .ref a ∧ ¬ G d ∧ H d = some (.xd [(f, u)]) ∧ Df K G H u t
def Sr (K : PySem.W.Frag) (X : List Addr) (Fm : Nat → List Addr) (W : Addr → Prop) (H : Hp) (s : Sh) (F : List Addr) (v : V) (t : T) : Prop := ((s = .vw ∧ F = [] ∧ Df K (Gm X Fm) H v t) ∨ Xs K (Gw X Fm W) H s F v t) ∨ Ow K (Gw X Fm W) H s F v t
structure Fr (K : PySem.W.Frag) (sh : Nat → Sh) (W : Addr → Prop) (X : List Addr) (Fm : Nat → List Addr) (H : Hp) (σ : L2.St) (δ : Dl) : Prop where
  rel : ∀ i t, dAt δ i = some t → ∃ v, σ[i]? = some (some v) ∧ Sr K X Fm W H (sh i) (Fm i) v t
  un : ∀ i, dAt δ i = none → Fm i = []
  nd : ∀ i, (Fm i).Nodup
  dj : ∀ i j a, i ≠ j → a ∈ Fm i → a ∉ Fm j
  dw : ∀ i a, a ∈ Fm i → ¬ W a
  wl : ∀ a, W a → NT H a
  len : δ.length ≤ σ.length
  xn : X.Nodup
  xd : ∀ i a, a ∈ X → a ∉ Fm i
  xw : ∀ a ∈ X, ¬ W a
  xl : ∀ a ∈ X, NT H a
section
variable {K : PySem.W.Frag} {sh : Nat → Sh} {W W' U : Addr → Prop} {X X' : List Addr} {Fm Fm' : Nat → List Addr} {H H' : Hp} {σ : L2.St} {δ : Dl} {i : Nat} {v : V} {t : T} {s : Sh} {F : List Addr}
theorem Sr.step (e : EdP U H H') (hu : ∀ a, U a → Gm X Fm a ∨ H a = none) (hg : ∀ a, Gw X' Fm' W' a → Gw X Fm W a ∨ H a = none) (hm : ∀ a, Gm X' Fm' a → Gm X Fm a ∨ H a = none) (hf : ∀ a ∈ F, ¬ U a) (h : Sr K X Fm W H s F v t) : Sr K X' Fm' W' H' s F v t := by
  rcases h with (⟨h1, h2, h3⟩ | ⟨h1, a, d, c, f, u, h2, h3, h4, h5, h6⟩) | h
  · exact .inl (.inl ⟨h1, h2, h3.step e hu hm⟩)
  · have ne : ¬ H d = none := by rw [h5]; exact fun z => nomatch z
    refine .inl (.inr ⟨h1, a, d, c, f, u, h2, h3, fun z => (hg d z).elim h4 ne, e.1 _ _ (fun z => (hu d z).elim (fun w => h4 (.inl w)) ne) h5, h6.step e (fun a z => (hu a z).imp .inl id) hg⟩)
  · exact .inr (h.step e (fun a z => (hu a z).imp .inl id) hg hf)
theorem Sr.ed0 (e : EdP noA H H') (h : Sr K X Fm W H s F v t) : Sr K X Fm W H' s F v t := h.step e (fun _ z => z.elim) (fun _ z => .inl z) (fun _ z => .inl z) fun _ _ z => z.elim
theorem Sr.weak (hg : ∀ a, Gw X' Fm' W' a → Gw X Fm W a) (hm : ∀ a, Gm X' Fm' a → Gm X Fm a) (h : Sr K X Fm W H s F v t) : Sr K X' Fm' W' H s F v t := h.step (U := noA) .refl (fun _ z => z.elim) (fun a z => .inl (hg a z)) (fun a z => .inl (hm a z)) fun _ _ z => z.elim
theorem Sr.alive (h : Sr K X Fm W H s F v t) : ∀ a ∈ F, H a ≠ none := by
  rcases h with (⟨_, h2, _⟩ | ⟨h2, _⟩) | h
  · rw [h2]; exact fun _ z => absurd z List.not_mem_nil
  · rw [h2]; exact fun _ z => absurd z List.not_mem_nil
  · exact h.alive
theorem Sr.nt (h : Sr K X Fm W H s F v t) : ∀ a ∈ F, NT H a := by
  rcases h with (⟨_, h2, _⟩ | ⟨h2, _⟩) | h
  · rw [h2]; exact fun _ z => absurd z List.not_mem_nil
  · rw [h2]; exact fun _ z => absurd z List.not_mem_nil
  · exact h.nt
theorem Sr.rp (h : Sr K X Fm W H s F v t) (n : s.nxc = true) : Rp K H v t := by
  rcases h with (⟨_, _, h⟩ | ⟨_, _, _, _, _, _, h, _⟩) | h
  · exact h.rp
  · rw [h] at n; cases n
  · exact h.rp
theorem Sr.fz (h : Sr K X Fm W H .fz F v t) : Df K (Gw X Fm W) H v t ∧ F = [] := by
  rcases h with (⟨h, _⟩ | ⟨_, _, _, _, _, _, h, _⟩) | h
  · cases h
  · cases h
  · exact h.df
theorem Sr.vw (h : Sr K X Fm W H .vw F v t) : Df K (Gm X Fm) H v t ∧ F = [] := by
  rcases h with (⟨_, h1, h2⟩ | ⟨_, _, _, _, _, _, h, _⟩) | h
  · exact ⟨h2, h1⟩
  · cases h
  · cases h with
    | nd c k r => simp [Sh.kids] at k
theorem Sr.xc {a d : Addr} {c f : Str} (h : Sr K X Fm W H (.xc a d c f) F v t) : F = [] ∧ v = .ref a ∧ ∃ u, H d = some (.xd [(f, u)]) ∧ Df K (Gw X Fm W) H u t := by
  rcases h with (⟨h, _⟩ | ⟨h0, _, _, _, _, u, h, h1, _, h2, h3⟩) | h
  · cases h
  · cases h; exact ⟨h0, h1, u, h2, h3⟩
  · cases h with
    | nd c k r => simp [Sh.kids] at k
theorem Sr.own (h : Sr K X Fm W H s F v t) (n : s.pln = true) : Ow K (Gw X Fm W) H s F v t := by
  rcases h with (⟨h, _⟩ | ⟨_, _, _, _, _, _, h, _⟩) | h
  · rw [h] at n; cases n
  · rw [h] at n; cases n
  · exact h
theorem Fr.nto (f : Fr K sh W X Fm H σ δ) : ∀ a, Om Fm a → NT H a := fun a ⟨i, h⟩ => by
  cases e : dAt δ i with
  | none => rw [f.un i e] at h; exact absurd h List.not_mem_nil
  | some t =>
    obtain ⟨v, _, o⟩ := f.rel i t e
    exact o.nt a h
theorem Fr.ntm (f : Fr K sh W X Fm H σ δ) : ∀ a, Gm X Fm a → NT H a := fun a h => h.elim (f.xl a) (f.nto a)
theorem Fr.nt (f : Fr K sh W X Fm H σ δ) : ∀ a, Gw X Fm W a → NT H a := fun a h => h.elim (f.ntm a) (f.wl a)
theorem Fr.al (f : Fr K sh W X Fm H σ δ) : ∀ a, Gw X Fm W a → H a ≠ none := fun a h => (f.nt a h).1
theorem Fr.ed0 (f : Fr K sh W X Fm H σ δ) (e : EdP noA H H') : Fr K sh W X Fm H' σ δ :=
  ⟨fun i t h => by obtain ⟨v, h1, h2⟩ := f.rel i t h; exact ⟨v, h1, h2.ed0 e⟩, f.un, f.nd, f.dj, f.dw, fun a z => e.2.2 a (f.wl a z), f.len, f.xn, f.xd, f.xw, fun a z => e.2.2 a (f.xl a z)⟩
theorem Fr.fz0 (f : Fr K sh W X Fm H σ δ) (h : sh i = .fz) : Fm i = [] := by
  cases e : dAt δ i with
  | none => exact f.un i e
  | some t =>
    obtain ⟨v, _, o⟩ := f.rel i t e
    rw [h] at o
    exact o.fz.2
theorem Fr.var (f : Fr K sh W X Fm H σ δ) (h : sh i = .fz) (e : dAt δ i = some t) : ∃ v, σ[i]? = some (some v) ∧ Df K (Gw X Fm W) H v t := by
  obtain ⟨v, h1, h2⟩ := f.rel i t e
  rw [h] at h2
  exact ⟨v, h1, h2.fz.1⟩
theorem Fr.set (f : Fr K sh W X Fm H σ δ) (h : Fm i = []) (d : Sr K X Fm W H (sh i) [] v t) : Fr K sh W X Fm H (σ.set i (some v)) (δ.set i (some t)) := by
  have l := f.len
  refine ⟨fun j u e => ?_, fun j e => ?_, f.nd, f.dj, f.dw, f.wl, by simpa using l, f.xn, f.xd, f.xw, f.xl⟩
  · by_cases z : j = i
    · subst z
      have e2 := dAt_set_eq e
      cases e2
      have lt : j < δ.length := by simpa using dAt_lt e
      refine ⟨v, by rw [List.getElem?_set_self (by omega)], ?_⟩
      rw [h]
      exact d
    · rw [dAt_set_ne z] at e
      obtain ⟨w, h1, h2⟩ := f.rel j u e
      exact ⟨w, by rw [List.getElem?_set_ne (fun q => z q.symm)]; exact h1, h2⟩
  · by_cases z : j = i
    · subst z
      exact h
    · rw [dAt_set_ne z] at e
      exact f.un j e
/-- a slot is forgotten; what it held is held meanwhile -/
theorem Fr.del (f : Fr K sh W X Fm H σ δ) (i : Nat) (v : Option V) : Fr K sh W (Fm i ++ X) (fun j => if j = i then [] else Fm j) H (σ.set i v) (δ.set i none) := by
  have l := f.len
  have hm : ∀ j a, (a ∈ if j = i then [] else Fm j) → j ≠ i ∧ a ∈ Fm j := fun j a h => by
    by_cases z : j = i
    · rw [if_pos z] at h; exact absurd h List.not_mem_nil
    · rw [if_neg z] at h; exact ⟨z, h⟩
  have hg : ∀ a, Gm (Fm i ++ X) (fun j => if j = i then [] else Fm j) a → Gm X Fm a := fun a h => h.elim (fun q => (List.mem_append.mp q).elim (fun z => .inr ⟨i, z⟩) .inl) fun ⟨j, q⟩ => .inr ⟨j, (hm j a q).2⟩
  have hw : ∀ a, Gw (Fm i ++ X) (fun j => if j = i then [] else Fm j) W a → Gw X Fm W a := fun a h => h.imp (hg a) id
  refine ⟨fun j u e => ?_, fun j e => ?_, fun j => ?_, fun j k a n q q2 => f.dj j k a n (hm j a q).2 (hm k a q2).2, fun j a q => f.dw j a (hm j a q).2, f.wl, by simpa using l, ?_, fun j a q q2 => ?_, fun a q => ?_, fun a q => ?_⟩
  · by_cases z : j = i
    · subst z
      exact absurd (dAt_set_eq e) (by simp)
    · rw [dAt_set_ne z] at e
      obtain ⟨w, h1, h2⟩ := f.rel j u e
      refine ⟨w, by rw [List.getElem?_set_ne (fun q => z q.symm)]; exact h1, ?_⟩
      simp only [if_neg z]
      exact h2.weak hw hg
  · by_cases z : j = i
    · simp only [if_pos z]
    · rw [dAt_set_ne z] at e
      simp only [if_neg z]
      exact f.un j e
  · by_cases z : j = i
    · simp only [if_pos z]; exact List.nodup_nil
    · simp only [if_neg z]; exact f.nd j
  · exact List.nodup_append.mpr ⟨f.nd i, f.xn, fun a h1 b h2 e => f.xd i b h2 (by rw [← e]; exact h1)⟩
  · obtain ⟨z1, z2⟩ := hm j a q2
    rcases List.mem_append.mp q with q | q
    · exact f.dj i j a (fun z => z1 z.symm) q z2
    · exact f.xd j a q z2
  · rcases List.mem_append.mp q with q | q
    · exact f.dw i a q
    · exact f.xw a q
  · rcases List.mem_append.mp q with q | q
    · exact f.nto a ⟨i, q⟩
    · exact f.xl a q
/-- what is held meanwhile is let go -/
theorem Fr.let (f : Fr K sh W (F ++ X) Fm H σ δ) : Fr K sh W X Fm H σ δ := by
  have nx := List.nodup_append.mp f.xn
  have hg : ∀ a, Gm X Fm a → Gm (F ++ X) Fm a := fun a h => h.imp (fun q => List.mem_append_right _ q) id
  exact ⟨fun i t h => by obtain ⟨v, h1, h2⟩ := f.rel i t h; exact ⟨v, h1, h2.weak (fun a z => z.imp (hg a) id) hg⟩, f.un, f.nd, f.dj, f.dw, f.wl, f.len, nx.2.1, fun i a q => f.xd i a (List.mem_append_right _ q), fun a q => f.xw a (List.mem_append_right _ q), fun a q => f.xl a (List.mem_append_right _ q)⟩
end
/-! ### readings -/
section
variable (K : PySem.W.Frag) (sh : Nat → Sh)
def Ke (Wx : WX) (W : Addr → Prop) (X : List Addr) (Fm : Nat → List Addr) (σ : L2.St) (H : Hp) (e : Xn) (δ' : Dl) : Prop :=
  ∀ d v H' Fm', Fr K sh W X Fm' H' σ δ' → Xt (Om Fm) (Om Fm') H H' → (¬ Gw X Fm' W d ∧ H' d = some (.xd [(e.fld, v)])) → Df K (Gw X Fm' W) H' v e.val → Wx (.ref (He.ga K e.cls)) (some d) σ H'
def Kf (Wx : WX) (W : Addr → Prop) (X : List Addr) (Fm : Nat → List Addr) (σ : L2.St) (H : Hp) (r : Rs) (Q : VK) : Prop := match r with
  | none => False
  | some (.ok t, δ') => ∀ x H' Fm', Fr K sh W X Fm' H' σ δ' → Xt (Om Fm) (Om Fm') H H' → Df K (Gw X Fm' W) H' x t → Q x H'
  | some (.error e, δ') => Ke K sh Wx W X Fm σ H e δ'
/-- an expression whose value is frozen data -/
def TF (Wx : WX) (f : Dl → Rs) : TE := fun σ H Q => ∃ W X Fm δ, Fr K sh W X Fm H σ δ ∧ Kf K sh Wx W X Fm σ H (f δ) Q
def Kn (s : Sh) (Wx : WX) (W : Addr → Prop) (X : List Addr) (Fm : Nat → List Addr) (σ : L2.St) (H : Hp) (r : Rs) (Q : VK) : Prop := match r with
  | none => False
  | some (.ok t, δ') => ∀ x H' Fm' F, Fr K sh W (F ++ X) Fm' H' σ δ' → Ow K (Gw (F ++ X) Fm' W) H' s F x t → Xt (Om Fm) (fun a => a ∈ F ∨ Om Fm' a) H H' → Q x H'
  | some (.error e, δ') => Ke K sh Wx W X Fm σ H e δ'
/-- how a quiet expression's value stands: frozen, lent, its parts frozen, or just so -/
inductive Md where
  | fz | vw | ch | rd
def Rm (X : List Addr) (Fm : Nat → List Addr) (W : Addr → Prop) (H : Hp) (m : Md) (x : V) (t : T) : Prop := match m with
  | .fz => Df K (Gw X Fm W) H x t
  | .vw => Df K (Gm X Fm) H x t
  | .ch => Vw K (Gw X Fm W) H x t
  | .rd => Rp K H x t
/-- a quiet expression: nothing but new things comes of it, and nothing is raised -/
def TQ (m : Md) (f : Dl → Option T) : TE := fun σ H Q => ∃ W X Fm δ t, Fr K sh W X Fm H σ δ ∧ f δ = some t ∧ ∀ x H', EdP noA H H' → Rm K X Fm W H' m x t → Q x H'
end
def qE (f : Dl → Option T) : Dl → Rs := fun δ => match f δ with
  | none => none
  | some t => some (.ok t, δ)
inductive Opd where
  | var (i : Nat) | val (f : Dl → Rs)
def TO (K : PySem.W.Frag) (sh : Nat → Sh) (Wx : WX) : Opd → TE
  | .var i => tVar i
  | .val f => TF K sh Wx f
def TOs (K : PySem.W.Frag) (sh : Nat → Sh) (Wx : WX) : List Opd → TA
  | [] => tNil
  | o :: r => tCons (TO K sh Wx o) (TOs K sh Wx r)
abbrev Rls := Option (Except Xn (List (Nat ⊕ T)) × Dl)
def runs : List Opd → Dl → Rls
  | [], δ => some (.ok [], δ)
  | .var i :: r, δ => match dAt δ i with
    | none => none
    | some _ => match runs r δ with
      | none => none
      | some (.error e, δ') => some (.error e, δ')
      | some (.ok l, δ') => some (.ok (.inl i :: l), δ')
  | .val f :: r, δ => match f δ with
    | none => none
    | some (.error e, δ') => some (.error e, δ')
    | some (.ok t, δ1) => match runs r δ1 with
      | none => none
      | some (.error e, δ') => some (.error e, δ')
      | some (.ok l, δ') => some (.ok (.inr t :: l), δ')
/-- the operands' trees, those of variables as they stand now -/
def res : List (Nat ⊕ T) → Dl → Option (List T)
  | [], _ => some []
  | .inl i :: r, δ => match dAt δ i, res r δ with
    | some t, some ts => some (t :: ts)
    | _, _ => none
  | .inr t :: r, δ => match res r δ with
    | some ts => some (t :: ts)
    | none => none
inductive ArgR (K : PySem.W.Frag) (G : Addr → Prop) (H : Hp) (σ : L2.St) : List (Nat ⊕ T) → List V → Prop
  | nil : ArgR K G H σ [] []
  | var {i : Nat} {x : V} {l : List (Nat ⊕ T)} {xs : List V} : σ[i]? = some (some x) → ArgR K G H σ l xs → ArgR K G H σ (.inl i :: l) (x :: xs)
  | val {t : T} {x : V} {l : List (Nat ⊕ T)} {xs : List V} : Df K G H x t → ArgR K G H σ l xs → ArgR K G H σ (.inr t :: l) (x :: xs)
section
variable {K : PySem.W.Frag} {sh : Nat → Sh} {Wx : WX} {W : Addr → Prop} {X : List Addr} {Fm Fm1 : Nat → List Addr} {H H1 : Hp} {σ : L2.St} {δ : Dl} {r : Rs} {Q : VK}
theorem Xt.gw {X X' : List Addr} {Fm' : Nat → List Addr} {H' : Hp} (x : Xt (Om Fm) (Om Fm') H H') (hx : ∀ a ∈ X', a ∈ X) : ∀ a, Gw X' Fm' W a → Gw X Fm W a ∨ H a = none := fun a z => z.elim (fun q => q.elim (fun w => .inl (.inl (.inl (hx a w)))) fun w => (x.2 a w).imp (fun y => .inl (.inr y)) id) fun q => .inl (.inr q)
theorem Df.xt {Fm' : Nat → List Addr} {H' : Hp} {v : V} {t : T} (x : Xt (Om Fm) (Om Fm') H H') (h : Df K (Gw X Fm W) H v t) : Df K (Gw X Fm' W) H' v t :=
  h.step x.1 (fun a z => .inl (.inl (.inr z))) (x.gw fun _ z => z)
theorem ArgR.xt {Fm' : Nat → List Addr} {H' : Hp} (x : Xt (Om Fm) (Om Fm') H H') : ∀ {l : List (Nat ⊕ T)} {xs : List V}, ArgR K (Gw X Fm W) H σ l xs → ArgR K (Gw X Fm' W) H' σ l xs
  | _, _, .nil => .nil
  | _, _, .var h r => .var h (ArgR.xt x r)
  | _, _, .val h r => .val (h.xt x) (ArgR.xt x r)
end
/-! ### operations -/
inductive VwL (K : PySem.W.Frag) (G : Addr → Prop) (H : Hp) : List V → List T → Prop
  | nil : VwL K G H [] []
  | cons {v : V} {t : T} {vs : List V} {ts : List T} : Vw K G H v t → VwL K G H vs ts → VwL K G H (v :: vs) (t :: ts)
def opn (op : List T → Option T) (os : List Opd) : Dl → Rs := fun δ => match runs os δ with
  | none => none
  | some (.error e, δ') => some (.error e, δ')
  | some (.ok l, δ') => match res l δ' with
    | none => none
    | some ts => match op ts with
      | none => none
      | some c => some (.ok c, δ')
/-- a rule over values does what op does over trees -/
def DOp (K : PySem.W.Frag) (r : List V → Hp → VK → Prop) (op : List T → Option T) : Prop := ∀ (G : Addr → Prop) (H : Hp) (xs : List V) (ts : List T) (c : T) (Q : VK), VwL K G H xs ts → op ts = some c → (∀ a, G a → H a ≠ none) →
  (∀ z H', EdP noA H H' → Df K G H' z c → Q z H') → r xs H Q
/-- .. and makes a new list, dict or object -/
def DNew (K : PySem.W.Frag) (r : List V → Hp → VK → Prop) (op : List T → Option T) : Prop := ∀ (G : Addr → Prop) (H : Hp) (xs : List V) (ts : List T) (c : T) (Q : VK), VwL K G H xs ts → op ts = some c → (∀ a, G a → H a ≠ none) →
  (∀ p vs H', H p = none → EdP noA H H' → Cell K H' p c vs → DfL K (fun a => a = p ∨ G a) H' vs c.kids → Q (.ref p) H') → r xs H Q
theorem DNew.op {K : PySem.W.Frag} {r : List V → Hp → VK → Prop} {op : List T → Option T} (h : DNew K r op) : DOp K r op := fun G H xs ts c Q v e al q =>
  h G H xs ts c Q v e al fun p vs H' hp ed ce df => q _ _ ed (.nd (fun z => al p z hp) ce.r (df.weak fun a z => .inr z))
def inls : List (Nat ⊕ T) → List Nat
  | [] => []
  | .inl i :: r => i :: inls r
  | .inr _ :: r => inls r
section
variable {K : PySem.W.Frag} {sh : Nat → Sh} {Wx : WX} {W : Addr → Prop} {X : List Addr} {Fm Fm1 : Nat → List Addr} {H H1 : Hp} {σ : L2.St} {δ : Dl} {r : Rs} {Q : VK}
theorem flat_pln {s : Sh} (h : s.flat = true) : s.pln = true := by cases s <;> first | rfl | cases h
theorem ArgR.vw (f : Fr K sh W X Fm H σ δ) : ∀ {l : List (Nat ⊕ T)} {xs : List V} {ts : List T}, ArgR K (Gw X Fm W) H σ l xs → (∀ i ∈ inls l, (sh i).flat = true) → res l δ = some ts → VwL K (Gw X Fm W) H xs ts
  | _, _, _, .nil, _, e => by cases e; exact .nil
  | _, _, ts, .var (i := i) hv r, hf, e => by
    unfold res at e
    split at e
    · rename_i t ts' q1 q2
      cases e
      obtain ⟨v, h1, h2⟩ := f.rel i t q1
      rw [hv] at h1
      cases h1
      exact .cons ((h2.own (flat_pln (hf i (List.mem_cons_self ..)))).vw (hf i (List.mem_cons_self ..))) (ArgR.vw f r (fun j z => hf j (List.mem_cons_of_mem _ z)) q2)
    · cases e
  | _, _, ts, .val h r, hf, e => by
    unfold res at e
    split at e
    · rename_i ts' q
      cases e
      exact .cons h.vw (ArgR.vw f r hf q)
    · cases e
/-- quiet is enough -/
theorem TQ.tf {f : Dl → Option T} (h : TF K sh Wx (qE f) σ H Q) : TQ K sh .fz f σ H Q := by
  obtain ⟨W, X, Fm, δ, fr, h⟩ := h
  unfold qE at h
  cases e : f δ with
  | none => simp only [e] at h; exact h.elim
  | some t =>
    simp only [e] at h
    exact ⟨W, X, Fm, δ, t, fr, e, fun x H' ed d => h x H' Fm (fr.ed0 ed) ed.xt0 d⟩
end
end NQ
namespace NQ
open PySem L2
/-! ### expressions by their operands -/
def tAll : List TE → TA
  | [] => tNil
  | t :: r => tCons t (tAll r)
inductive PEs (X : Cx) : List Expr → List TE → Prop
  | nil : PEs X [] []
  | cons {e : Expr} {es : List Expr} {t : TE} {ts : List TE} : PE X e t → PEs X es ts → starEach (e :: es) X.env = (false, eval e X.env) :: starEach es X.env → PEs X (e :: es) (t :: ts)
theorem PEs.c {X : Cx} {e : Expr} {es : List Expr} {t : TE} {ts : List TE} (h : PE X e t) (r : PEs X es ts) (hs : starEach (e :: es) X.env = (false, eval e X.env) :: starEach es X.env := by rfl) : PEs X (e :: es) (t :: ts) := .cons h r hs
theorem PEs.pa {X : Cx} : ∀ {es : List Expr} {ts : List TE}, PEs X es ts → PA X es (tAll ts)
  | _, _, .nil => pa_nil
  | _, _, .cons h r s => pa_cons h (PEs.pa r) s
abbrev RV := List V → Hp → VK → Prop
/-- e makes its operands from the left, then does what r tells -/
def Con (X : Cx) (e : Expr) (es : List Expr) (r : RV) : Prop := ∀ ts, PEs X es ts → PE X e fun σ H Q => tAll ts σ H fun xs H' => r xs H' Q
def ConT (X : Cx) (e : Expr) (es : List Expr) (r : RV) : Prop := ∀ ts, PEs X es ts → PT X e fun σ H Q => tAll ts σ H fun xs H' => r xs H' fun x H'' => ∃ k, x = .bl k ∧ Q k H''
def r1 (r : V → Hp → VK → Prop) : RV := fun xs H Q => match xs with
  | [x] => r x H Q
  | _ => False
def r2 (r : R2) : RV := fun xs H Q => match xs with
  | [x, y] => r x y H Q
  | _ => False
section
variable {X : Cx} {a b : Expr} {pos : Pos} {r : R2}
end
/-! ### what rules do over trees -/
/-- operands by what they stand for alone; the outcome lies apart from all that was -/
def DRd (K : PySem.W.Frag) (r : RV) (op : List T → Option T) : Prop := ∀ (H : Hp) (xs : List V) (ts : List T) (c : T) (Q : VK), RpL K H xs ts → op ts = some c →
  (∀ z H', EdP noA H H' → (∀ G : Addr → Prop, (∀ a, G a → H a ≠ none) → Df K G H' z c) → Q z H') → r xs H Q
theorem VwL.rp {K : PySem.W.Frag} {G : Addr → Prop} {H : Hp} : ∀ {vs : List V} {ts : List T}, VwL K G H vs ts → RpL K H vs ts
  | _, _, .nil => .nil
  | _, _, .cons h r => .cons h.rp (VwL.rp r)
theorem DRd.op {K : PySem.W.Frag} {r : RV} {op : List T → Option T} (h : DRd K r op) : DOp K r op := fun G H xs ts c Q v e al q => h H xs ts c Q v.rp e fun z H' ed d => q z H' ed (d G al)
abbrev Op := List T → Option T
def altT (f g : Op) : Op := fun ts => match f ts with
  | some c => some c
  | none => g ts
inductive CoR (X : Cx) (K : PySem.W.Frag) (e : Expr) (es : List Expr) : Op → Prop
  | one {r : RV} {op : Op} : Con X e es r → DRd K r op → CoR X K e es op
  | alt {f g : Op} : CoR X K e es f → CoR X K e es g → CoR X K e es (altT f g)
inductive Co (X : Cx) (K : PySem.W.Frag) (e : Expr) (es : List Expr) : Op → Prop
  | one {r : RV} {op : Op} : Con X e es r → DOp K r op → Co X K e es op
  | alt {f g : Op} : Co X K e es f → Co X K e es g → Co X K e es (altT f g)
inductive CoRT (X : Cx) (K : PySem.W.Frag) (e : Expr) (es : List Expr) : Op → Prop
  | one {r : RV} {op : Op} : ConT X e es r → DRd K r op → (∀ ts c, op ts = some c → ∃ b, c = .bl b) → CoRT X K e es op
  | alt {f g : Op} : CoRT X K e es f → CoRT X K e es g → CoRT X K e es (altT f g)
theorem CoR.co {X : Cx} {K : PySem.W.Frag} {e : Expr} {es : List Expr} {op : Op} (h : CoR X K e es op) : Co X K e es op := by
  induction h with
  | one c d => exact .one c d.op
  | alt _ _ h1 h2 => exact .alt h1 h2
/-- new lists, dicts -/
inductive CoN (X : Cx) (K : PySem.W.Frag) (e : Expr) (es : List Expr) : Op → Prop
  | one {r : RV} {op : Op} : Con X e es r → DNew K r op → (∀ ts c, op ts = some c → (Sh.all .fz).kids c = some (c.kids.map fun _ => .fz)) → CoN X K e es op
  | alt {f g : Op} : CoN X K e es f → CoN X K e es g → CoN X K e es (altT f g)
theorem CoN.co {X : Cx} {K : PySem.W.Frag} {e : Expr} {es : List Expr} {op : Op} (h : CoN X K e es op) : Co X K e es op := by
  induction h with
  | one c d k => exact .one c d.op
  | alt _ _ h1 h2 => exact .alt h1 h2
/-! ### quiet operands -/
abbrev Qf := Dl → Option T
def evq : List Qf → Dl → Option (List T)
  | [], _ => some []
  | f :: r, δ => match f δ with
    | none => none
    | some t => match evq r δ with
      | none => none
      | some ts => some (t :: ts)
def opq (op : Op) (fs : List Qf) : Qf := fun δ => match evq fs δ with
  | none => none
  | some ts => op ts
inductive RmL (K : PySem.W.Frag) (X : List Addr) (Fm : Nat → List Addr) (W : Addr → Prop) (H : Hp) : List Md → List V → List T → Prop
  | nil : RmL K X Fm W H [] [] []
  | cons {m : Md} {ms : List Md} {v : V} {t : T} {vs : List V} {ts : List T} : Rm K X Fm W H m v t → RmL K X Fm W H ms vs ts → RmL K X Fm W H (m :: ms) (v :: vs) (t :: ts)
section
variable {K : PySem.W.Frag} {sh : Nat → Sh} {Wx : WX} {W : Addr → Prop} {X : List Addr} {Fm Fm1 : Nat → List Addr} {H H' H1 : Hp} {σ : L2.St} {δ : Dl} {Q : VK}
mutual
theorem Rp.ed0 (e : EdP noA H H') : ∀ {v : V} {t : T}, Rp K H v t → Rp K H' v t
  | _, _, .sc h => .sc h
  | _, _, .nd c r => .nd (c.keep fun o q => e.1 _ _ (fun z => z) q) (RpL.ed0 e r)
theorem RpL.ed0 (e : EdP noA H H') : ∀ {vs : List V} {ts : List T}, RpL K H vs ts → RpL K H' vs ts
  | _, _, .nil => .nil
  | _, _, .cons h r => .cons (Rp.ed0 e h) (RpL.ed0 e r)
end
theorem Vw.ed0 {G : Addr → Prop} {v : V} {t : T} (e : EdP noA H H') (h : Vw K G H v t) : Vw K G H' v t := by
  rcases h with h | ⟨a, vs, h1, h2, h3⟩
  · exact .inl h
  · exact .inr ⟨a, vs, h1, h2.keep fun o q => e.1 _ _ (fun z => z) q, h3.ed0 e⟩
theorem Rm.ed0 {m : Md} {v : V} {t : T} (e : EdP noA H H') (h : Rm K X Fm W H m v t) : Rm K X Fm W H' m v t := by
  cases m with
  | fz => exact Df.ed0 e h
  | vw => exact Df.ed0 e h
  | ch => exact Vw.ed0 e h
  | rd => exact Rp.ed0 e h
theorem Rm.rp {m : Md} {v : V} {t : T} (h : Rm K X Fm W H m v t) : Rp K H v t := by
  cases m with
  | fz => exact Df.rp h
  | vw => exact Df.rp h
  | ch => exact Vw.rp h
  | rd => exact h
theorem RmL.rp : ∀ {ms : List Md} {vs : List V} {ts : List T}, RmL K X Fm W H ms vs ts → RpL K H vs ts
  | _, _, _, .nil => .nil
  | _, _, _, .cons h r => .cons h.rp (RmL.rp r)
def chL (ms : List Md) : Bool := ms.all fun m => match m with | .fz => true | .ch => true | _ => false
def vwL (ms : List Md) : Bool := ms.all fun m => match m with | .fz => true | .vw => true | _ => false
theorem RmL.ch : ∀ {ms : List Md} {vs : List V} {ts : List T}, chL ms = true → RmL K X Fm W H ms vs ts → VwL K (Gw X Fm W) H vs ts
  | _, _, _, _, .nil => .nil
  | m :: ms, _, _, z, .cons h r => by
    unfold chL at z
    rw [List.all_cons, Bool.and_eq_true] at z
    refine .cons ?_ (RmL.ch z.2 r)
    cases m with
    | fz => exact Df.vw h
    | ch => exact h
    | vw => exact absurd z.1 Bool.false_ne_true
    | rd => exact absurd z.1 Bool.false_ne_true
theorem RmL.vw : ∀ {ms : List Md} {vs : List V} {ts : List T}, vwL ms = true → RmL K X Fm W H ms vs ts → VwL K (Gm X Fm) H vs ts
  | _, _, _, _, .nil => .nil
  | m :: ms, _, _, z, .cons h r => by
    unfold vwL at z
    rw [List.all_cons, Bool.and_eq_true] at z
    refine .cons ?_ (RmL.vw z.2 r)
    cases m with
    | fz => exact Df.vw (Df.weak (fun a q => .inl q) h)
    | vw => exact Df.vw h
    | ch => exact absurd z.1 Bool.false_ne_true
    | rd => exact absurd z.1 Bool.false_ne_true
theorem RmL.ed0 (e : EdP noA H H') : ∀ {ms : List Md} {vs : List V} {ts : List T}, RmL K X Fm W H ms vs ts → RmL K X Fm W H' ms vs ts
  | _, _, _, .nil => .nil
  | _, _, _, .cons h r => .cons (h.ed0 e) (RmL.ed0 e r)
end
section
variable {X : Cx} {K : PySem.W.Frag} {sh : Nat → Sh} {Wx : WX} {e : Expr} {es : List Expr} {op : Op} {l : List (Md × Qf)} {os : List Opd}
/-! ### slots, written things, coercions -/
end
end NQ
namespace NQ
open PySem L2
/-! ### operands that are stored: lists, tuples written out -/
section
variable {K : PySem.W.Frag} {sh : Nat → Sh} {Wx : WX} {W : Addr → Prop} {X : List Addr} {Fm Fm1 : Nat → List Addr} {H H' H1 : Hp} {σ : L2.St} {δ : Dl} {Q : VK}
theorem RmL.df : ∀ {ms : List Md} {vs : List V} {ts : List T}, (ms.all fun m => match m with | .fz => true | _ => false) = true → RmL K X Fm W H ms vs ts → DfL K (Gw X Fm W) H vs ts
  | _, _, _, _, .nil => .nil
  | m :: ms, _, _, z, .cons h r => by
    rw [List.all_cons, Bool.and_eq_true] at z
    refine .cons ?_ (RmL.df z.2 r)
    cases m with
    | fz => exact h
    | ch => exact absurd z.1 Bool.false_ne_true
    | vw => exact absurd z.1 Bool.false_ne_true
    | rd => exact absurd z.1 Bool.false_ne_true
theorem RmL.dv : ∀ {ms : List Md} {vs : List V} {ts : List T}, vwL ms = true → RmL K X Fm W H ms vs ts → DfL K (Gm X Fm) H vs ts
  | _, _, _, _, .nil => .nil
  | m :: ms, _, _, z, .cons h r => by
    unfold vwL at z
    rw [List.all_cons, Bool.and_eq_true] at z
    refine .cons ?_ (RmL.dv z.2 r)
    cases m with
    | fz => exact Df.weak (fun a q => .inl q) h
    | vw => exact h
    | ch => exact absurd z.1 Bool.false_ne_true
    | rd => exact absurd z.1 Bool.false_ne_true
theorem ArgR.df : ∀ {l : List (Nat ⊕ T)} {xs : List V} {ts : List T}, ArgR K (Gw X Fm W) H σ l xs → inls l = [] → res l δ = some ts → DfL K (Gw X Fm W) H xs ts
  | _, _, _, .nil, _, e => by cases e; exact .nil
  | _, _, ts, .var (i := i) hv r, hf, e => by cases hf
  | _, _, ts, .val h r, hf, e => by
    unfold res at e
    split at e
    · rename_i ts' q
      cases e
      exact .cons h (ArgR.df r hf q)
    · cases e
end
section
variable {X : Cx} {K : PySem.W.Frag} {sh : Nat → Sh} {Wx : WX} {e : Expr} {es : List Expr} {op : Op} {l : List (Md × Qf)} {os : List Opd} {rr : RV}
def lstT : Op := fun ts => if ts.length ≤ sizeLine then some (.lst ts) else none
def tupT : Op := fun ts => if ts.length ≤ sizeLine then some (.tup ts) else none
end
end NQ
namespace NQ
open PySem L2
/-! ### signs that are signs -/
theorem sok_iff {s : Str} : PyData.strOk s = true ↔ ∀ c ∈ s.cps.toList, c < 0x110000 := by
  unfold PyData.strOk
  rw [← Array.all_toList, List.all_eq_true]
  simp
theorem sok_asc {x : Str} (h : ∀ c ∈ x.cps.toList, c ≤ 127) : PyData.strOk x = true := sok_iff.mpr fun c hc => Nat.lt_of_le_of_lt (h c hc) (by decide)
/-! ### what scalars are -/
section
variable {K : PySem.W.Frag} {H : Hp} {x : V} {i : Int} {s : Str} {b : Bool}
theorem Rp.int (h : Rp K H x (.int i)) : x = .int i := h.isS rfl
theorem Rp.bl (h : Rp K H x (.bl b)) : x = .bl b := h.isS rfl
theorem Rp.non (h : Rp K H x .non) : x = .non := h.isS rfl
theorem Rp.str (h : Rp K H x (.str s)) : x = .str s ∧ PyData.strOk s = true := by
  cases h with
  | sc h => exact h
  | nd c _ => exact c.elim
theorem Rp.ty {n : String} (h : Rp K H x (.ty n)) : x = .ty n := by
  cases h with
  | sc h => exact h
  | nd c _ => exact c.elim
theorem Rp.gl {n : Str} (h : Rp K H x (.gl n)) : x = .ref (He.ga K n) := by
  cases h with
  | sc h => exact h
  | nd c _ => exact c.elim
theorem Rp.lst {ts : List T} (h : Rp K H x (.lst ts)) : ∃ a vs, x = .ref a ∧ SqL K H a vs ∧ RpL K H vs ts := by
  cases h with
  | sc h => exact h.elim
  | nd c r => exact ⟨_, _, rfl, .inl c, r⟩
theorem RpL.sv : ∀ {ts : List T}, ts.all T.isS = true → RpL K H (ts.map T.sv) ts := fun h => (DfL.sv (G := noA) h).rp
theorem Rp.tup {ts : List T} (h : Rp K H x (.tup ts)) : ∃ a vs, x = .ref a ∧ SqT K H a vs ∧ RpL K H vs ts := by
  cases h with
  | sc h => exact h.elim
  | nd c r => exact ⟨_, _, rfl, SqT.of c, r⟩
theorem Rp.ctup {ts : List T} (h : Rp K H x (.ctup ts)) : ∃ a vs, x = .ref a ∧ SqT K H a vs ∧ RpL K H vs ts ∧ ts.all T.isS = true := by
  cases h with
  | sc h =>
    obtain ⟨a, e, h, z⟩ := h
    exact ⟨a, _, e, h H, RpL.sv z, z⟩
  | nd c r => exact c.elim
theorem Rp.clst {ts : List T} (h : Rp K H x (.clst ts)) : ∃ a vs, x = .ref a ∧ SqL K H a vs ∧ RpL K H vs ts ∧ ts.all T.isS = true := by
  cases h with
  | sc h =>
    obtain ⟨a, e, h, z⟩ := h
    exact ⟨a, _, e, h H, RpL.sv z, z⟩
  | nd c r => exact c.elim
theorem Rp.dic {ks : List Key} {ts : List T} (h : Rp K H x (.dic ks ts)) : ∃ a vs, x = .ref a ∧ ks.length = vs.length ∧ Rd H a (.dK (ks.zip vs)) ∧ RpL K H vs ts := by
  cases h with
  | sc h => exact h.elim
  | nd c r => exact ⟨_, _, rfl, c.1, c.2, r⟩
theorem Rp.dit {ks : List (List Key)} {ts : List T} (h : Rp K H x (.dit ks ts)) : ∃ a vs, x = .ref a ∧ ks.length = vs.length ∧ Rd H a (.dT (ks.zip vs)) ∧ RpL K H vs ts := by
  cases h with
  | sc h => exact h.elim
  | nd c r => exact ⟨_, _, rfl, c.1, c.2, r⟩
theorem RpL.one {t : T} {xs : List V} (h : RpL K H xs [t]) : ∃ x, xs = [x] ∧ Rp K H x t := by
  cases h with
  | cons h r => cases r; exact ⟨_, rfl, h⟩
theorem RpL.two {t u : T} {xs : List V} (h : RpL K H xs [t, u]) : ∃ x y, xs = [x, y] ∧ Rp K H x t ∧ Rp K H y u := by
  cases h with
  | cons h r =>
    obtain ⟨y, rfl, h2⟩ := r.one
    exact ⟨_, _, rfl, h, h2⟩
theorem RpL.at : ∀ {vs : List V} {ts : List T} {i : Nat} {t : T}, RpL K H vs ts → ts[i]? = some t → ∃ v, vs[i]? = some v ∧ Rp K H v t
  | _, _, _, _, .nil, e => by simp at e
  | _, _, 0, _, .cons h _, e => by simp at e; subst e; exact ⟨_, rfl, h⟩
  | _, _, i + 1, _, .cons _ r, e => by
    obtain ⟨v, h1, h2⟩ := RpL.at r (i := i) (by simpa using e)
    exact ⟨v, by simpa using h1, h2⟩
end
theorem VwL.one {K : PySem.W.Frag} {G : Addr → Prop} {H : Hp} {t : T} {xs : List V} (h : VwL K G H xs [t]) : ∃ x, xs = [x] ∧ Vw K G H x t := by
  cases h with
  | cons h r => cases r; exact ⟨_, rfl, h⟩
theorem VwL.two {K : PySem.W.Frag} {G : Addr → Prop} {H : Hp} {t u : T} {xs : List V} (h : VwL K G H xs [t, u]) : ∃ x y, xs = [x, y] ∧ Vw K G H x t ∧ Vw K G H y u := by
  cases h with
  | cons h r =>
    obtain ⟨y, rfl, h2⟩ := r.one
    exact ⟨_, _, rfl, h, h2⟩
theorem Vw.lst {K : PySem.W.Frag} {G : Addr → Prop} {H : Hp} {x : V} {ts : List T} (h : Vw K G H x (.lst ts)) : ∃ a vs, x = .ref a ∧ Rd H a (.lst vs) ∧ DfL K G H vs ts := by
  rcases h with h | ⟨a, vs, rfl, c, r⟩
  · exact h.elim
  · exact ⟨a, vs, rfl, c, r⟩
theorem Vw.tup {K : PySem.W.Frag} {G : Addr → Prop} {H : Hp} {x : V} {ts : List T} (h : Vw K G H x (.tup ts)) : ∃ a vs, x = .ref a ∧ H a = some (.tup vs) ∧ DfL K G H vs ts := by
  rcases h with h | ⟨a, vs, rfl, c, r⟩
  · exact h.elim
  · exact ⟨a, vs, rfl, c, r⟩
/-! ### numbers and texts -/
def addR : Op
  | [.int i, .int j] => some (.int (i + j))
  | [.str a, .str b] => if a.length + b.length ≤ sizeLine then some (.str (a ++ b)) else none
  | _ => none
def subT : Op
  | [.int i, .int j] => some (.int (i - j))
  | _ => none
def mulR : Op
  | [.int i, .int j] => if (-(2 ^ 64) < i ∧ i < 2 ^ 64) ∨ (-(2 ^ 64) < j ∧ j < 2 ^ 64) ∨ i.natAbs.log2 + j.natAbs.log2 < 1000000 then some (.int (i * j)) else none
  | [.str a, .int n] => if -(2 ^ 20) < n ∧ n < 2 ^ 20 ∧ a.length * n.toNat ≤ 1000000 then some (.str (Txt.mul a n)) else none
  | _ => none
def modT : Op
  | [.int i, .int j] => if 0 < j then some (.int (i % j)) else none
  | _ => none
def divT : Op
  | [.int i, .int j] => if 0 < j ∧ j.natAbs.log2 < 9000 then some (.int (i / j)) else none
  | _ => none
def powT : Op
  | [.int i, .int j] => if 0 ≤ j ∧ j ≤ 1000000 ∧ i.natAbs < 2 ^ 64 then some (.int (i ^ j.toNat)) else none
  | _ => none
def cmpT (f : Int → Int → Bool) : Op
  | [.int i, .int j] => some (.bl (f i j))
  | _ => none
def negT : Op
  | [.int i] => some (.int (-i))
  | _ => none
section
variable {K : PySem.W.Frag}
/-! ### == and != -/
mutual
def T.pd : T → Option PyData
  | .non => some .none
  | .bl b => some (.bool b)
  | .int i => some (.int i)
  | .str s => some (.str s)
  | .lst ts => match pdL ts with | some ds => some (.list ds) | none => none
  | .tup ts => match pdL ts with | some ds => some (.tuple ds) | none => none
  | .ctup ts => match pdL ts with | some ds => some (.tuple ds) | none => none
  | .dic _ _ => none | .dit _ _ => none | .ins _ _ _ => none | .gl _ => none | .ty _ => none | .clst _ => none
def pdL : List T → Option (List PyData)
  | [] => some []
  | t :: r => match t.pd, pdL r with
    | some d, some ds => some (d :: ds)
    | _, _ => none
end
end
mutual
theorem Rp.dp {K : PySem.W.Frag} {H : Hp} : ∀ {t : T} {x : V} {d : PyData}, Rp K H x t → t.pd = some d → Dp K H x d ∧ d.canLay0 = true
  | .non, _, _, h, e => by cases e; cases h.non; exact ⟨.non, by simp [PyData.canLay0]⟩
  | .bl b, _, _, h, e => by cases e; cases h.bl; exact ⟨.bl b, by simp [PyData.canLay0]⟩
  | .int i, _, _, h, e => by cases e; cases h.int; exact ⟨.int i, by simp [PyData.canLay0]⟩
  | .str s, _, _, h, e => by
    cases e
    obtain ⟨rfl, s1⟩ := h.str
    exact ⟨.str s, by simp [PyData.canLay0, s1]⟩
  | .lst ts, _, _, h, e => by
    unfold T.pd at e
    cases q : pdL ts with
    | none => rw [q] at e; cases e
    | some ds =>
      rw [q] at e
      cases e
      obtain ⟨a, vs, rfl, h1, h2⟩ := h.lst
      obtain ⟨k1, k2⟩ := RpL.dp h2 q
      exact ⟨.lst h1 k1, by simp only [PyData.canLay0, k2]⟩
  | .tup ts, _, _, h, e => by
    unfold T.pd at e
    cases q : pdL ts with
    | none => rw [q] at e; cases e
    | some ds =>
      rw [q] at e
      cases e
      obtain ⟨a, vs, rfl, h1, h2⟩ := h.tup
      obtain ⟨k1, k2⟩ := RpL.dp h2 q
      exact ⟨.tup h1 k1, by simp only [PyData.canLay0, k2]⟩
  | .ctup ts, _, _, h, e => by
    unfold T.pd at e
    cases q : pdL ts with
    | none => rw [q] at e; cases e
    | some ds =>
      rw [q] at e
      cases e
      obtain ⟨a, vs, rfl, h1, h2, _⟩ := h.ctup
      obtain ⟨k1, k2⟩ := RpL.dp h2 q
      exact ⟨.tup h1 k1, by simp only [PyData.canLay0, k2]⟩
  | .dic _ _, _, _, _, e => by cases e
  | .dit _ _, _, _, _, e => by cases e
  | .ins _ _ _, _, _, _, e => by cases e
  | .gl _, _, _, _, e => by cases e
  | .ty _, _, _, _, e => by cases e
theorem RpL.dp {K : PySem.W.Frag} {H : Hp} : ∀ {ts : List T} {xs : List V} {ds : List PyData}, RpL K H xs ts → pdL ts = some ds → DpAll K H xs ds ∧ PyData.canLayAll0 ds = true
  | [], _, _, h, e => by cases e; cases h; exact ⟨.nil, by simp [PyData.canLayAll0]⟩
  | t :: r, _, _, h, e => by
    unfold pdL at e
    cases h with
    | cons h1 h2 =>
      split at e
      · rename_i d ds q1 q2
        cases e
        obtain ⟨k1, k2⟩ := Rp.dp h1 q1
        obtain ⟨k3, k4⟩ := RpL.dp h2 q2
        exact ⟨.cons k1 k3, by simp [PyData.canLayAll0, k2, k4]⟩
      · cases e
end
/-- == over trees -/
def eqB (a b : T) : Option Bool := match a.pd, b.pd with
  | some d, some e => if d.depth ≤ 60 ∧ e.depth ≤ 60 then some (PyData.eqv d e) else none
  | _, _ => none
def eqT : Op
  | [a, b] => match eqB a b with | some b => some (.bl b) | none => none
  | _ => none
def neT : Op
  | [a, b] => match eqB a b with | some b => some (.bl (!b)) | none => none
  | _ => none
section
variable {K : PySem.W.Frag}
/-! ### is None -/
def T.isN : T → Bool
  | .non => true
  | _ => false
def isNT : Op
  | [a, .non] => some (.bl a.isN)
  | _ => none
def notNT : Op
  | [a, .non] => some (.bl (!a.isN))
  | _ => none
theorem Rp.isN {H : Hp} {x : V} {t : T} (h : Rp K H x t) : decide (x = .non) = t.isN := by
  cases h with
  | sc h =>
    cases t <;> first
      | (cases h; rfl)
      | (obtain ⟨rfl, _⟩ := h; rfl)
      | exact h.elim
      | (obtain ⟨_, rfl, _⟩ := h; rfl)
  | nd c _ => cases t <;> first
      | rfl
      | exact c.elim
/-! ### in -/
def inS (t : T) (ts : List T) : Bool := inV t.sv (ts.map T.sv)
/-- is it in: a list, a tuple, a text -/
def memB (x c : T) : Option Bool := match c with
  | .lst ts => if x.isS = true ∧ ts.all T.isS = true then some (inS x ts) else none
  | .tup ts => if x.isS = true ∧ ts.all T.isS = true then some (inS x ts) else none
  | .ctup ts => if x.isS = true then some (inS x ts) else none
  | .str z => match x with
    | .str s => match s.cps.toList with
      | [c] => some (decide (c ∈ z.cps.toList))
      | _ => none
    | _ => none
  | _ => none
def inT : Op
  | [x, c] => match memB x c with | some b => some (.bl b) | none => none
  | _ => none
def ninT : Op
  | [x, c] => match memB x c with | some b => some (.bl (!b)) | none => none
  | _ => none
end
end NQ
namespace NQ
open PySem L2
section
variable {K : PySem.W.Frag} {G : Addr → Prop} {H : Hp}
/-! ### a[i] -/
def seqT : T → Option (List T)
  | .lst ts => some ts
  | .tup ts => some ts
  | .ctup ts => some ts
  | .clst ts => some ts
  | _ => none
def ixR : Op
  | [a, .int i] => match a with
    | .str z => if z.length ≤ sizeLine then (match atI z.cps.toList i with | some c => some (.str ⟨#[c]⟩) | none => none) else none
    | a => match seqT a with
      | some ts => match atI ts i with
        | some t => if t.isS then some t else none
        | none => none
      | none => none
  | _ => none
def ixD : Op
  | [.lst ts, .int i] => atI ts i
  | [.tup ts, .int i] => atI ts i
  | _ => none
theorem Rp.seq {x : V} {a : T} {ts : List T} (h : Rp K H x a) (e : seqT a = some ts) : ∃ p vs, x = .ref p ∧ (SqL K H p vs ∨ SqT K H p vs) ∧ RpL K H vs ts := by
  unfold seqT at e
  split at e <;> cases e
  · obtain ⟨p, vs, rfl, h1, h2⟩ := h.lst; exact ⟨p, vs, rfl, .inl h1, h2⟩
  · obtain ⟨p, vs, rfl, h1, h2⟩ := h.tup; exact ⟨p, vs, rfl, .inr h1, h2⟩
  · obtain ⟨p, vs, rfl, h1, h2, _⟩ := h.ctup; exact ⟨p, vs, rfl, .inr h1, h2⟩
  · obtain ⟨p, vs, rfl, h1, h2, _⟩ := h.clst; exact ⟨p, vs, rfl, .inl h1, h2⟩
/-! ### dicts: d[k], k in d -/
def T.key : T → Option Key
  | .int i => some (.inl i)
  | .str s => some (.inr s)
  | _ => none
def keysT : List T → Option (List Key)
  | [] => some []
  | t :: r => match t.key, keysT r with
    | some k, some ks => some (k :: ks)
    | _, _ => none
/-- the value at the key k -/
def lookT {κ : Type} [DecidableEq κ] (ks : List κ) (ts : List T) (k : κ) : Option T := match ks, ts with
  | a :: ks, t :: ts => if a = k then some t else lookT ks ts k
  | _, _ => none
def dlook (d k : T) : Option (Option T) := match d with
  | .dic ks ts => match k.key with
    | some k => some (lookT ks ts k)
    | none => none
  | .dit ks ts => match k with
    | .tup us => match keysT us with
      | some k => some (lookT ks ts k)
      | none => none
    | _ => none
  | _ => none
def dgetR : Op
  | [d, k] => match dlook d k with
    | some (some t) => if t.isS then some t else none
    | _ => none
  | _ => none
def dgetD : Op
  | [d, k] => match dlook d k with
    | some (some t) => some t
    | _ => none
  | _ => none
def dinT : Op
  | [k, d] => match dlook d k with | some o => some (.bl o.isSome) | none => none
  | _ => none
def dninT : Op
  | [k, d] => match dlook d k with | some o => some (.bl (!o.isSome)) | none => none
  | _ => none
/-! ### calls -/
def lenT : Op
  | [.str z] => if z.length ≤ sizeLine then some (.int z.length) else none
  | [a] => match seqT a with | some ts => some (.int ts.length) | none => none
  | _ => none
def intT : Op
  | [.int i] => some (.int i)
  | [.bl b] => some (.int (if b then 1 else 0))
  | [.str a] => match PySem.intText? a with
    | some n => if a.length ≤ 640 then some (.int n) else none
    | none => none
  | _ => none
def strT : Op
  | [.int i] => if i.natAbs.log2 < 1920 then some (.str (toString i)) else none
  | [.str a] => some (.str a)
  | _ => none
def absT : Op
  | [.int i] => some (.int (if i < 0 then -i else i))
  | _ => none
def maxT : Op
  | [.int i, .int j] => some (.int (if j > i then j else i))
  | _ => none
def minT : Op
  | [.int i, .int j] => some (.int (if j < i then j else i))
  | _ => none
/-! ### new lists, tuples -/
theorem newT {H : Hp} {vs : List V} {ts : List T} {Q : VK} (al : ∀ a, G a → H a ≠ none) (d : DfL K G H vs ts) (k : ∀ z H', EdP noA H H' → Df K G H' z (.tup ts) → Q z H') : ∀ p, H p = none → Q (.ref p) (upd H p (.tup vs)) :=
  fun p hp => k _ _ (EdP.new hp) (.nd (fun z => al p z hp) upd_same (d.ed0 (EdP.new hp)))
theorem Vw.seq {x : V} {a : T} {ts : List T} (h : Vw K G H x a) (e : seqT a = some ts) : ∃ p vs, x = .ref p ∧ (SqL K H p vs ∨ SqT K H p vs) ∧ DfL K G H vs ts := by
  unfold seqT at e
  split at e <;> cases e
  · obtain ⟨p, vs, rfl, h1, h2⟩ := h.lst; exact ⟨p, vs, rfl, .inl (.inl h1), h2⟩
  · obtain ⟨p, vs, rfl, h1, h2⟩ := h.tup; exact ⟨p, vs, rfl, .inr (SqT.of h1), h2⟩
  · obtain ⟨p, vs, rfl, h1, h2, h3⟩ := h.rp.ctup
    have := h2.svs h3
    subst this
    exact ⟨p, _, rfl, .inr h1, DfL.sv h3⟩
  · obtain ⟨p, vs, rfl, h1, h2, h3⟩ := h.rp.clst
    have := h2.svs h3
    subst this
    exact ⟨p, _, rfl, .inl h1, DfL.sv h3⟩
def listT : Op
  | [a] => match seqT a with | some ts => some (.lst ts) | none => none
  | _ => none
/-- list(text) -/
def listS : Op
  | [.str z] => if z.length ≤ sizeLine then some (.lst ((NL.sgn z).map T.str)) else none
  | _ => none
def tupleL : Op
  | [.lst ts] => some (.tup ts)
  | _ => none
def addL : Op
  | [.lst xs, .lst ys] => if xs.length + ys.length ≤ sizeLine then some (.lst (xs ++ ys)) else none
  | _ => none
end
end NQ
namespace NQ
open PySem L2
/-! ### operands that are looked at as they come -/
abbrev PV := V → Hp → Prop
def tAllC : List PV → List TE → TA
  | [], ts => tAll ts
  | P :: Ps, t :: ts => fun σ H Q => t σ H fun x H1 => P x H1 ∧ tAllC Ps ts σ H1 fun xs H2 => Q (x :: xs) H2
  | _ :: _, [] => tNil
/-- what is wanted may be weakened -/
def MonoE (t : TE) : Prop := ∀ (σ : L2.St) (H : Hp) (Q Q' : VK), (∀ x H', Q x H' → Q' x H') → t σ H Q → t σ H Q'
def ConC (X : Cx) (e : Expr) (es : List Expr) (Ps : List PV) (r : RV) : Prop := ∀ ts, PEs X es ts → (∀ t ∈ ts, MonoE t) → PE X e fun σ H Q => tAllC Ps ts σ H fun xs H' => r xs H' Q
inductive ChkL (K : PySem.W.Frag) : List PV → List T → Prop
  | nil {ts : List T} : ChkL K [] ts
  | cons {P : PV} {Ps : List PV} {t : T} {ts : List T} : (∀ H x, Rp K H x t → P x H) → ChkL K Ps ts → ChkL K (P :: Ps) (t :: ts)
abbrev Chk (K : PySem.W.Frag) (Ps : List PV) (op : Op) : Prop := ∀ ts c, op ts = some c → ChkL K Ps ts
inductive CoC (X : Cx) (K : PySem.W.Frag) (e : Expr) (es : List Expr) : Op → Prop
  | one {Ps : List PV} {r : RV} {op : Op} : ConC X e es Ps r → DOp K r op → Chk K Ps op → CoC X K e es op
  | alt {f g : Op} : CoC X K e es f → CoC X K e es g → CoC X K e es (altT f g)
inductive CoCR (X : Cx) (K : PySem.W.Frag) (e : Expr) (es : List Expr) : Op → Prop
  | one {Ps : List PV} {r : RV} {op : Op} : ConC X e es Ps r → DRd K r op → Chk K Ps op → CoCR X K e es op
  | alt {f g : Op} : CoCR X K e es f → CoCR X K e es g → CoCR X K e es (altT f g)
theorem CoCR.co {X : Cx} {K : PySem.W.Frag} {e : Expr} {es : List Expr} {op : Op} (h : CoCR X K e es op) : CoC X K e es op := by
  induction h with
  | one c d k => exact .one c d.op k
  | alt _ _ h1 h2 => exact .alt h1 h2
inductive CoCN (X : Cx) (K : PySem.W.Frag) (e : Expr) (es : List Expr) : Op → Prop
  | one {Ps : List PV} {r : RV} {op : Op} : ConC X e es Ps r → DNew K r op → (∀ ts c, op ts = some c → (Sh.all .fz).kids c = some (c.kids.map fun _ => .fz)) → Chk K Ps op → CoCN X K e es op
theorem TQ.mono {K : PySem.W.Frag} {sh : Nat → Sh} {m : Md} {f : Qf} : MonoE (TQ K sh m f) := fun σ H Q Q' i ⟨W, Y, Fm, δ, t, f, e, k⟩ => ⟨W, Y, Fm, δ, t, f, e, fun x H' ed r => i _ _ (k x H' ed r)⟩
theorem Kf.mono {K : PySem.W.Frag} {sh : Nat → Sh} {Wx : WX} {W : Addr → Prop} {Y : List Addr} {Fm : Nat → List Addr} {σ : L2.St} {H : Hp} {r : Rs} {Q Q' : VK} (i : ∀ x H', Q x H' → Q' x H') (h : Kf K sh Wx W Y Fm σ H r Q) : Kf K sh Wx W Y Fm σ H r Q' := by
  unfold Kf at h ⊢
  split at h
  · exact h
  · exact fun x H' Fm' f k d => i _ _ (h x H' Fm' f k d)
  · exact h
theorem TF.mono {K : PySem.W.Frag} {sh : Nat → Sh} {Wx : WX} {f : Dl → Rs} : MonoE (TF K sh Wx f) := fun σ H Q Q' i ⟨W, Y, Fm, δ, f, k⟩ => ⟨W, Y, Fm, δ, f, k.mono i⟩
theorem TO.mono {K : PySem.W.Frag} {sh : Nat → Sh} {Wx : WX} : ∀ {o : Opd}, MonoE (TO K sh Wx o)
  | .var i => fun σ H Q Q' i ⟨v, e, h⟩ => ⟨v, e, i _ _ h⟩
  | .val f => TF.mono
theorem TQs.mono {K : PySem.W.Frag} {sh : Nat → Sh} {l : List (Md × Qf)} : ∀ t ∈ l.map fun p => TQ K sh p.1 p.2, MonoE t := fun t ht => by
  obtain ⟨p, _, rfl⟩ := List.mem_map.mp ht
  exact TQ.mono
theorem TOs.mono {K : PySem.W.Frag} {sh : Nat → Sh} {Wx : WX} {os : List Opd} : ∀ t ∈ os.map (TO K sh Wx), MonoE t := fun t ht => by
  obtain ⟨p, _, rfl⟩ := List.mem_map.mp ht
  exact TO.mono
theorem PEs.len {X : Cx} : ∀ {es : List Expr} {ts : List TE}, PEs X es ts → ts.length = es.length
  | _, _, .nil => rfl
  | _, _, .cons _ r _ => by rw [List.length_cons, List.length_cons, PEs.len r]
section
variable {K : PySem.W.Frag} {sh : Nat → Sh} {Wx : WX} {W : Addr → Prop} {Y : List Addr} {Fm Fm1 : Nat → List Addr} {H H' H1 : Hp} {σ : L2.St} {δ : Dl} {Q : VK}
end
/-- as opn, where no operand raises -/
def opnc (op : Op) (os : List Opd) : Dl → Rs := fun δ => match runs os δ with
  | some (.ok l, δ') => match res l δ' with
    | none => none
    | some ts => match op ts with
      | none => none
      | some c => some (.ok c, δ')
  | _ => none
section
variable {X : Cx} {K : PySem.W.Frag} {sh : Nat → Sh} {Wx : WX} {e : Expr} {es : List Expr} {op : Op} {l : List (Md × Qf)} {os : List Opd}
end
/-! ### methods of built-in types; parts -/
section
variable {X : Cx} {K : PySem.W.Frag} {a lo hi : Expr} {pos p2 : Pos}
variable {r : V → Option Int → Option Int → Hp → VK → Prop}
/-- the parts lo, hi behind the thing -/
def partsT (b1 b2 : Bool) : List T → Option (T × Option Int × Option Int)
  | [a, .int i, .int j] => if b1 && b2 then some (a, some i, some j) else none
  | [a, .int i] => if b1 && !b2 then some (a, some i, none) else if !b1 && b2 then some (a, none, some i) else none
  | _ => none
def cutT {α : Type} (ts : List α) (lo hi : Option Int) : List α := (ts.drop (HT.sIx ts.length 0 lo)).take (HT.sIx ts.length ts.length hi - HT.sIx ts.length 0 lo)
def slS (b1 b2 : Bool) : Op := fun ts => match partsT b1 b2 ts with
  | some (.str z, lo, hi) => if z.length ≤ sizeLine then some (.str (cutS z lo hi)) else none
  | _ => none
def slL (b1 b2 : Bool) : Op := fun ts => match partsT b1 b2 ts with
  | some (.lst us, lo, hi) => some (.lst (cutT us lo hi))
  | some (.clst us, lo, hi) => some (.lst (cutT us lo hi))
  | _ => none
end
end NQ
namespace NQ
open PySem L2
/-! ### texts -/
section
variable {K : PySem.W.Frag} {G : Addr → Prop} {H : Hp}
def strsT : List T → Option (List Str)
  | [] => some []
  | .str s :: r => match strsT r with | some l => some (s :: l) | none => none
  | _ :: _ => none
theorem strs_map (l : List Str) : strsT (l.map T.str) = some l := by
  induction l with
  | nil => rfl
  | cons s r ih => show (match strsT (r.map T.str) with | some l => some (s :: l) | none => none) = _; rw [ih]
theorem RpL.strs {l : List Str} {vs : List V} (h : RpL K H vs (l.map T.str)) : vs = l.map V.str ∧ ∀ s ∈ l, PyData.strOk s = true := by
  induction l generalizing vs with
  | nil => cases h; exact ⟨rfl, fun _ z => absurd z List.not_mem_nil⟩
  | cons s r ih =>
    cases h with
    | cons h1 h2 =>
      obtain ⟨rfl, k⟩ := h1.str
      obtain ⟨rfl, k2⟩ := ih h2
      refine ⟨rfl, fun x hx => ?_⟩
      rcases List.mem_cons.mp hx with rfl | hx
      · exact k
      · exact k2 x hx
def joinT : Op
  | [.str a, c] => match seqT c with
    | some ts => match strsT ts with
      | some l => if (l.map (·.length)).sum + l.length * a.length ≤ 16777216 then some (.str (Txt.join a l)) else none
      | none => none
    | none => none
  | _ => none
def splitT : Op
  | [.str a, .str b] => if (b.length == 0) = false ∧ a.length + 2 ≤ sizeLine then some (.lst ((Txt.split a b).map T.str)) else none
  | _ => none
def wordsT : Op
  | [.str a] => if a.length + 2 ≤ sizeLine then some (.lst ((Txt.words a).map T.str)) else none
  | _ => none
def stripT : Op
  | [.str a] => if a.length ≤ sizeLine then some (.str (Txt.strip a)) else none
  | _ => none
/-! ### lists: + and * -/
def mulL : Op
  | [.lst xs, .int n] => if -(2 ^ 63) ≤ n ∧ n < 2 ^ 63 ∧ xs.length * n.toNat ≤ sizeLine then some (.lst (List.replicate n.toNat xs).flatten) else none
  | _ => none
end
/-! ### truth -/
def truT : T → Option Bool
  | .non => some false
  | .bl b => some b
  | .int i => some (i != 0)
  | .str z => if z.length ≤ sizeLine then some ((z.length : Int) != 0) else none
  | .lst ts => some (!ts.isEmpty)
  | .tup ts => some (!ts.isEmpty)
  | .ctup ts => some (!ts.isEmpty)
  | .dic ks ts => if ks.length = ts.length then some (!ts.isEmpty) else none
  | .dit ks ts => if ks.length = ts.length then some (!ts.isEmpty) else none
  | _ => none
def TruX (K : PySem.W.Frag) (x : V) (H : Hp) (k : Bool) : Prop := TruV K x H k ∨ ∃ p, x = .ref p ∧ ((∃ kvs, Rd H p (.dT kvs) ∧ k = !kvs.isEmpty) ∨ ∃ kvs, Rd H p (.dK kvs) ∧ k = !kvs.isEmpty)
theorem empty_len {α β : Type} {xs : List α} {ys : List β} (h : xs.length = ys.length) : (!xs.isEmpty) = !ys.isEmpty := by
  cases xs <;> cases ys <;> first | rfl | cases h
theorem empty_zip {α β γ : Type} {xs : List α} {ys : List β} {zs : List γ} (h : xs.length = ys.length) (h2 : ys.length = zs.length) : (!(xs.zip ys).isEmpty) = !zs.isEmpty := by
  cases xs <;> cases ys <;> cases zs <;> first | rfl | (exfalso; simp only [List.length_cons, List.length_nil] at h h2; omega)
theorem Rp.tru {K : PySem.W.Frag} {H : Hp} {x : V} {t : T} {b : Bool} (h : Rp K H x t) (e : truT t = some b) : TruX K x H b := by
  cases t with
  | non => cases e; cases h.non; exact .inl rfl
  | bl c => cases e; cases h.bl; exact .inl rfl
  | int i => cases e; cases h.int; exact .inl rfl
  | str z =>
    simp only [truT] at e
    split at e
    · rename_i hz
      cases e
      obtain ⟨rfl, _⟩ := h.str
      exact .inl ⟨hz, rfl⟩
    · cases e
  | lst ts =>
    cases e
    obtain ⟨a, vs, rfl, h1, h2⟩ := h.lst
    exact .inl (.inl ⟨vs, h1, (empty_len h2.length).symm⟩)
  | tup ts =>
    cases e
    obtain ⟨a, vs, rfl, h1, h2⟩ := h.tup
    exact .inl (.inr (.inl ⟨vs, h1, (empty_len h2.length).symm⟩))
  | ctup ts =>
    cases e
    obtain ⟨a, vs, rfl, h1, h2, _⟩ := h.ctup
    exact .inl (.inr (.inl ⟨vs, h1, (empty_len h2.length).symm⟩))
  | clst ts => cases e
  | dic ks ts =>
    simp only [truT] at e
    split at e
    · cases e
      obtain ⟨a, vs, rfl, l, h1, h2⟩ := h.dic
      exact .inr ⟨a, rfl, .inr ⟨_, h1, (empty_zip l h2.length).symm⟩⟩
    · cases e
  | dit ks ts =>
    simp only [truT] at e
    split at e
    · cases e
      obtain ⟨a, vs, rfl, l, h1, h2⟩ := h.dit
      exact .inr ⟨a, rfl, .inl ⟨_, h1, (empty_zip l h2.length).symm⟩⟩
    · cases e
  | ins c fs ts => cases e
  | gl n => cases e
  | ty n => cases e
/-! ### tests -/
abbrev Qb := Dl → Option Bool
abbrev Rb := Option (Except Xn Bool × Dl)
def qB (f : Qb) : Dl → Rb := fun δ => match f δ with
  | none => none
  | some b => some (.ok b, δ)
def asB (f : Qf) : Qb := fun δ => match f δ with
  | some (.bl b) => some b
  | _ => none
def asTru (f : Qf) : Qb := fun δ => match f δ with
  | some t => truT t
  | none => none
def asBE (f : Dl → Rs) : Dl → Rb := fun δ => match f δ with
  | some (.ok (.bl b), δ') => some (.ok b, δ')
  | some (.error e, δ') => some (.error e, δ')
  | _ => none
def asTruE (f : Dl → Rs) : Dl → Rb := fun δ => match f δ with
  | none => none
  | some (.error e, δ') => some (.error e, δ')
  | some (.ok t, δ') => match truT t with
    | some b => some (.ok b, δ')
    | none => none
def notQ (f : Qb) : Qb := fun δ => match f δ with
  | some b => some (!b)
  | none => none
def andQ (f g : Qb) : Qb := fun δ => match f δ with
  | some true => g δ
  | some false => some false
  | none => none
def orQ (f g : Qb) : Qb := fun δ => match f δ with
  | some true => some true
  | some false => g δ
  | none => none
def notE (f : Dl → Rb) : Dl → Rb := fun δ => match f δ with
  | none => none
  | some (.error e, δ') => some (.error e, δ')
  | some (.ok b, δ') => some (.ok (!b), δ')
def andE (f g : Dl → Rb) : Dl → Rb := fun δ => match f δ with
  | none => none
  | some (.error e, δ') => some (.error e, δ')
  | some (.ok true, δ') => g δ'
  | some (.ok false, δ') => some (.ok false, δ')
def orE (f g : Dl → Rb) : Dl → Rb := fun δ => match f δ with
  | none => none
  | some (.error e, δ') => some (.error e, δ')
  | some (.ok true, δ') => some (.ok true, δ')
  | some (.ok false, δ') => g δ'
section
variable {X : Cx} {K : PySem.W.Frag} {sh : Nat → Sh} {Wx : WX} {W : Addr → Prop} {Y : List Addr} {Fm Fm1 : Nat → List Addr} {H H1 : Hp} {e a b : Expr} {rest : List Expr} {pos : Pos} {es : List Expr} {op : Op} {l : List (Md × Qf)} {os : List Opd} {σ : L2.St}
end
end NQ
namespace NQ
open PySem L2
/-! ### statements -/
inductive Fl where
  | nx | brk | cont | ret (t : T) | exc (e : Xn)
abbrev Ss := Option (Fl × Dl)
abbrev Sf := Dl → Ss
/-- the slots' shapes, the shape of what is returned, the slots that keep their value -/
structure Cf where
  sh : Nat → Sh
  rs : Sh
  pr : Nat → Bool
def Kp (c : Cf) (σ σ' : L2.St) : Prop := ∀ i, c.pr i = true → σ'[i]? = σ[i]?
theorem Kp.refl {c : Cf} {σ : L2.St} : Kp c σ σ := fun _ _ => rfl
theorem Kp.tr {c : Cf} {σ σ1 σ2 : L2.St} (h : Kp c σ σ1) (h2 : Kp c σ1 σ2) : Kp c σ σ2 := fun i p => (h2 i p).trans (h i p)
theorem Kp.set {c : Cf} {σ : L2.St} {i : Nat} {v : Option V} (h : c.pr i = false) : Kp c σ (σ.set i v) := fun j p => by
  rw [List.getElem?_set_ne (fun z => by rw [z, p] at h; cases h)]
section
variable (K : PySem.W.Frag) (c : Cf)
def Kx (W : Addr → Prop) (Y : List Addr) (Fm : Nat → List Addr) (σ : L2.St) (H : Hp) (δ' : Dl) (N : L2.St → Hp → Prop) : Prop :=
  ∀ σ' H' Fm', Kp c σ σ' → Fr K c.sh W Y Fm' H' σ' δ' → Xt (Om Fm) (Om Fm') H H' → N σ' H'
def Kr (W : Addr → Prop) (Y : List Addr) (Fm : Nat → List Addr) (σ : L2.St) (H : Hp) (t : T) (δ' : Dl) (R : VK) : Prop :=
  ∀ x σ' H' Fm' F, Kp c σ σ' → Fr K c.sh W (F ++ Y) Fm' H' σ' δ' → Ow K (Gw (F ++ Y) Fm' W) H' c.rs F x t → Xt (Om Fm) (fun a => a ∈ F ∨ Om Fm' a) H H' → R x H'
def Kes (Wx : WX) (W : Addr → Prop) (Y : List Addr) (Fm : Nat → List Addr) (σ : L2.St) (H : Hp) (e : Xn) (δ' : Dl) : Prop :=
  ∀ σ' d v H' Fm', Kp c σ σ' → Fr K c.sh W Y Fm' H' σ' δ' → Xt (Om Fm) (Om Fm') H H' → (¬ Gw Y Fm' W d ∧ H' d = some (.xd [(e.fld, v)])) → Df K (Gw Y Fm' W) H' v e.val → Wx (.ref (He.ga K e.cls)) (some d) σ' H'
def Ks (Wx : WX) (W : Addr → Prop) (Y : List Addr) (Fm : Nat → List Addr) (σ : L2.St) (H : Hp) (r : Ss) (D : Ends) : Prop := match r with
  | none => False
  | some (.nx, δ') => Kx K c W Y Fm σ H δ' D.nx
  | some (.brk, δ') => Kx K c W Y Fm σ H δ' D.bk
  | some (.cont, δ') => Kx K c W Y Fm σ H δ' D.ct
  | some (.ret t, δ') => Kr K c W Y Fm σ H t δ' D.rt
  | some (.exc e, δ') => Kes K c Wx W Y Fm σ H e δ'
def SF (Wx : WX) (F : Sf) : TS := fun D σ H => ∃ W Y Fm δ, Fr K c.sh W Y Fm H σ δ ∧ Ks K c Wx W Y Fm σ H (F δ) D
end
def sNext : Sf := fun δ => some (.nx, δ)
def sBrk : Sf := fun δ => some (.brk, δ)
def sCont : Sf := fun δ => some (.cont, δ)
def sSeq (F G : Sf) : Sf := fun δ => match F δ with
  | some (.nx, δ') => G δ'
  | r => r
def sSet (i : Nat) (f : Dl → Rs) : Sf := fun δ => match f δ with
  | none => none
  | some (.error e, δ') => some (.exc e, δ')
  | some (.ok t, δ') => some (.nx, δ'.set i (some t))
def sDrop (f : Dl → Rs) : Sf := fun δ => match f δ with
  | none => none
  | some (.error e, δ') => some (.exc e, δ')
  | some (.ok _, δ') => some (.nx, δ')
def sRet (f : Dl → Rs) : Sf := fun δ => match f δ with
  | none => none
  | some (.error e, δ') => some (.exc e, δ')
  | some (.ok t, δ') => some (.ret t, δ')
def sRetV (i : Nat) : Sf := fun δ => match dAt δ i with
  | none => none
  | some t => some (.ret t, δ.set i none)
def sRetN : Sf := fun δ => some (.ret .non, δ)
def sIf (f : Dl → Rb) (F G : Sf) : Sf := fun δ => match f δ with
  | none => none
  | some (.error e, δ') => some (.exc e, δ')
  | some (.ok true, δ') => F δ'
  | some (.ok false, δ') => G δ'
section
variable {K : PySem.W.Frag} {c : Cf} {Wx : WX} {W : Addr → Prop} {Y : List Addr} {Fm Fm1 : Nat → List Addr} {σ σ1 : L2.St} {H H1 : Hp} {δ δ' : Dl}
theorem Kes.ke {e : Xn} (h : Kes K c Wx W Y Fm σ H e δ') : Ke K c.sh Wx W Y Fm σ H e δ' := fun d v H' Fm' f x q1 q2 => h σ d v H' Fm' .refl f x q1 q2
/-- frozen outcomes are outcomes of the shape fz -/
theorem Kr.fz {R : VK} {t : T} (hr : c.rs = .fz) (h : Kr K c W Y Fm σ H t δ' R) : ∀ x H' Fm', Fr K c.sh W Y Fm' H' σ δ' → Xt (Om Fm) (Om Fm') H H' → Df K (Gw Y Fm' W) H' x t → R x H' := fun x H' Fm' f xt d =>
  h x σ H' Fm' [] .refl f (by rw [hr]; exact .fz d) ⟨xt.1, fun a z => z.elim (fun q => absurd q List.not_mem_nil) fun q => xt.2 a q⟩
end
section
variable {X : Cx} {K : PySem.W.Frag} {c : Cf} {Wx : WX} {st : Stmt} {rest : List Stmt} {F G : Sf} {e : Expr} {f : Dl → Rs} {pos : Pos}
def sSetN (i : Nat) (f : Dl → Rs) : Sf := fun δ => match f δ with
  | none => none
  | some (.error e, δ') => some (.exc e, δ')
  | some (.ok t, δ') => if i < δ'.length then some (.nx, δ'.set i (some t)) else none
/-! ### expressions that choose -/
def ifE (g : Dl → Rb) (f1 f2 : Dl → Rs) : Dl → Rs := fun δ => match g δ with
  | none => none
  | some (.error e, δ') => some (.error e, δ')
  | some (.ok true, δ') => f1 δ'
  | some (.ok false, δ') => f2 δ'
def ifQ (g : Qb) (f1 f2 : Qf) : Qf := fun δ => match g δ with
  | none => none
  | some true => f1 δ
  | some false => f2 δ
variable {sh : Nat → Sh} {t a b : Expr}
/-! ### slots and written things -/
def eV (i : Nat) : Qf := fun δ => dAt δ i
def eC (t : T) : Qf := fun _ => some t
end
end NQ
namespace NQ
open PySem L2
/-! ### defs as functions over trees -/
inductive Ou where
  | ret (t : T) | exc (e : Xn)
abbrev Fo := Option (Ou × List T)
def Sh.isO : Sh → Bool
  | .fz => false
  | .vw => false
  | .xc .. => false
  | _ => true
mutual
def Sh.beq : Sh → Sh → Bool
  | .fz, .fz => true
  | .vw, .vw => true
  | .all a, .all b => Sh.beq a b
  | .opt a, .opt b => Sh.beq a b
  | .row a, .row b => beqL a b
  | .flds a, .flds b => beqF a b
  | _, _ => false
def beqL : List Sh → List Sh → Bool
  | [], [] => true
  | a :: r, b :: s => Sh.beq a b && beqL r s
  | _, _ => false
def beqF : List (Str × Sh) → List (Str × Sh) → Bool
  | [], [] => true
  | (x, a) :: r, (y, b) :: s => decide (x = y) && (Sh.beq a b && beqF r s)
  | _, _ => false
end
mutual
theorem Sh.beq_eq : ∀ {a b : Sh}, Sh.beq a b = true → a = b
  | .fz, b, h => by cases b <;> first | rfl | (simp [Sh.beq] at h)
  | .vw, b, h => by cases b <;> first | rfl | (simp [Sh.beq] at h)
  | .xc .., b, h => by cases b <;> (simp [Sh.beq] at h)
  | .all a, b, h => by cases b <;> first | (simp only [Sh.beq] at h; rw [Sh.beq_eq h]) | (simp [Sh.beq] at h)
  | .opt a, b, h => by cases b <;> first | (simp only [Sh.beq] at h; rw [Sh.beq_eq h]) | (simp [Sh.beq] at h)
  | .row a, b, h => by cases b <;> first | (simp only [Sh.beq] at h; rw [beqL_eq h]) | (simp [Sh.beq] at h)
  | .flds a, b, h => by cases b <;> first | (simp only [Sh.beq] at h; rw [beqF_eq h]) | (simp [Sh.beq] at h)
theorem beqL_eq : ∀ {a b : List Sh}, beqL a b = true → a = b
  | [], b, h => by cases b <;> first | rfl | (simp [beqL] at h)
  | a :: r, b, h => by
    cases b with
    | nil => simp [beqL] at h
    | cons b s =>
      simp only [beqL, Bool.and_eq_true] at h
      rw [Sh.beq_eq h.1, beqL_eq h.2]
theorem beqF_eq : ∀ {a b : List (Str × Sh)}, beqF a b = true → a = b
  | [], b, h => by cases b <;> first | rfl | (simp [beqF] at h)
  | (x, a) :: r, b, h => by
    cases b with
    | nil => simp [beqF] at h
    | cons b s =>
      obtain ⟨y, b⟩ := b
      simp only [beqF, Bool.and_eq_true, decide_eq_true_eq] at h
      rw [h.1, Sh.beq_eq h.2.1, beqF_eq h.2.2]
end
def pl : List Sh → Nat → Sh
  | [], _ => .fz
  | s :: _, 0 => s
  | _ :: r, i + 1 => pl r i
section
variable (K : PySem.W.Frag) (ps : List Sh) (rs : Sh)
end
/-- the parameters of one's own as they stand at the end -/
def fin : List Sh → List T → Dl → Option (List T)
  | s :: ss, t :: ts, d :: δ => match fin ss ts δ with
    | none => none
    | some l => if s.isO then (match d with | some u => some (u :: l) | none => none) else some (t :: l)
  | [], [], _ => some []
  | _, _, _ => none
def Sh.nilOk : Sh → Bool
  | .fz => true
  | .opt _ => true
  | _ => false
def fnT (ps : List Sh) (m : Nat) (rs : Sh) (b : Sf) : List T → Fo := fun ts => match b (ts.map some ++ List.replicate m none) with
  | some (.nx, δ) => if rs.nilOk then (match fin ps ts δ with | some l => some (.ret .non, l) | none => none) else none
  | some (.ret t, δ) => match fin ps ts δ with | some l => some (.ret t, l) | none => none
  | some (.exc e, δ) => match fin ps ts δ with | some l => some (.exc e, l) | none => none
  | _ => none
end NQ
namespace NQ
open PySem L2
/-! ### calls -/
def skO : List Opd → List (Option Nat)
  | [] => []
  | .var i :: r => some i :: skO r
  | .val _ :: r => none :: skO r
def owns : List Sh → List (Option Nat) → List Nat
  | s :: ss, some i :: k => if s.isO then i :: owns ss k else owns ss k
  | _ :: ss, none :: k => owns ss k
  | _, _ => []
def wb : List Sh → List (Option Nat) → List T → Dl → Dl
  | s :: ss, some i :: k, t :: ts, δ => wb ss k ts (if s.isO then δ.set i (some t) else δ)
  | _ :: ss, none :: k, _ :: ts, δ => wb ss k ts δ
  | _, _, _, δ => δ
theorem ArgR.len {K : PySem.W.Frag} {G : Addr → Prop} {H : Hp} {σ : L2.St} : ∀ {l : List (Nat ⊕ T)} {xs : List V}, ArgR K G H σ l xs → xs.length = l.length
  | _, _, .nil => rfl
  | _, _, .var _ r => by rw [List.length_cons, List.length_cons, ArgR.len r]
  | _, _, .val _ r => by rw [List.length_cons, List.length_cons, ArgR.len r]
end NQ
namespace NQ
open PySem L2
section
variable {K : PySem.W.Frag} {sh : Nat → Sh} {W : Addr → Prop} {Y F : List Addr} {Fm Fm' : Nat → List Addr} {H H' : Hp} {σ : L2.St} {δ : Dl} {ps : List Sh} {sk : List (Option Nat)} {xs : List V} {ts ts' : List T} {l : List (Nat ⊕ T)}
def Wc (ps : List Sh) (sk : List (Option Nat)) (W : Addr → Prop) (Y : List Addr) (Fm : Nat → List Addr) : Addr → Prop := fun a => a ∈ Y ∨ W a ∨ ∃ i, i ∉ owns ps sk ∧ a ∈ Fm i
end
/-! ### a call of a def -/
def fCall (ps : List Sh) (F : List T → Fo) (os : List Opd) : Dl → Rs := fun δ => match runs os δ with
  | none => none
  | some (.error e, δ') => some (.error e, δ')
  | some (.ok l, δ') => match res l δ' with
    | none => none
    | some ts => match F ts with
      | none => none
      | some (.ret t, ts') => if ts'.length = ps.length then some (.ok t, wb ps (skO os) ts' δ') else none
      | some (.exc e, ts') => if ts'.length = ps.length then some (.error e, wb ps (skO os) ts' δ') else none
section
variable {X : Cx} {K : PySem.W.Frag} {sh : Nat → Sh} {Wx : WX} {ps : List Sh} {rs : Sh} {F : List T → Fo} {os : List Opd} {σ : L2.St} {H : Hp} {Q : VK}
variable {k : Nat} {x : Str} {e : Expr} {es : List Expr} {params : List Str} {p pos : Pos}
end
end NQ
namespace NQ
open PySem L2
/-! ### targets -/
abbrev Gf := T → Dl → Option Dl
abbrev Gfs := List T → Dl → Option Dl
/-- only the slots ns may have changed -/
def On (ns : List Nat) (σ σ' : L2.St) : Prop := σ'.length = σ.length ∧ ∀ i, i ∉ ns → σ'[i]? = σ[i]?
theorem On.refl {ns : List Nat} {σ : L2.St} : On ns σ σ := ⟨rfl, fun _ _ => rfl⟩
theorem On.set {σ : L2.St} {i : Nat} {v : Option V} : On [i] σ (σ.set i v) := ⟨by simp, fun j h => by rw [List.getElem?_set_ne (fun z => h (by rw [z]; exact List.mem_singleton.mpr rfl))]⟩
theorem On.tr {ns ms : List Nat} {σ σ1 σ2 : L2.St} (h : On ns σ σ1) (h2 : On ms σ1 σ2) : On (ns ++ ms) σ σ2 := ⟨h2.1.trans h.1, fun i n => (h2.2 i fun z => n (List.mem_append_right _ z)).trans (h.2 i fun z => n (List.mem_append_left _ z))⟩
def gN (i : Nat) : Gf := fun t δ => some (δ.set i (some t))
def gT (gs : Gfs) : Gf := fun t δ => match seqT t with
  | some ts => gs ts δ
  | none => none
def gNl : Gfs
  | [], δ => some δ
  | _ :: _, _ => none
def gCs (g : Gf) (gs : Gfs) : Gfs
  | t :: ts, δ => match g t δ with
    | some δ' => gs ts δ'
    | none => none
  | [], _ => none
section
variable {X : Cx} {K : PySem.W.Frag} {c : Cf} {x : Str} {pos : Pos} {e : Expr} {es : List Expr}
end
/-! ### what is walked over -/
abbrev Il := Dl → Option (Except Xn (List T) × Dl)
section
variable {K : PySem.W.Frag} {G : Addr → Prop} {H : Hp} {a : Addr} {vs : List V} {ts : List T}
def enT (ts : List T) : List T := ts.zipIdx.map fun p => T.tup [.int (p.2 : Nat), p.1]
end
section
variable {X : Cx} {K : PySem.W.Frag} {sh : Nat → Sh} {Wx : WX} {tg e : Expr} {es : List Expr} {pos p : Pos}
/-- the items of a thing -/
def itT : T → Option (List T)
  | .str z => some ((NL.sgn z).map T.str)
  | t => seqT t
def itE (f : Dl → Rs) : Il := fun δ => match f δ with
  | none => none
  | some (.error e, δ') => some (.error e, δ')
  | some (.ok t, δ') => match itT t with
    | some ts => some (.ok ts, δ')
    | none => none
theorem Df.lst {G : Addr → Prop} {H : Hp} {x : V} {ts : List T} (h : Df K G H x (.lst ts)) : ∃ a vs, x = .ref a ∧ ¬ G a ∧ Rd H a (.lst vs) ∧ DfL K G H vs ts := by
  cases h with
  | sc h => exact h.elim
  | nd n c r => exact ⟨_, _, rfl, n, c, r⟩
theorem Df.tup {G : Addr → Prop} {H : Hp} {x : V} {ts : List T} (h : Df K G H x (.tup ts)) : ∃ a vs, x = .ref a ∧ ¬ G a ∧ H a = some (.tup vs) ∧ DfL K G H vs ts := by
  cases h with
  | sc h => exact h.elim
  | nd n c r => exact ⟨_, _, rfl, n, c, r⟩
/-! ### range, enumerate -/
def itR1 (f : Dl → Rs) : Il := fun δ => match f δ with
  | some (.ok (.int j), δ') => if -(2 ^ 62) ≤ j ∧ j < 2 ^ 62 then some (.ok ((List.range j.toNat).map fun i => T.int (0 + (i : Nat))), δ') else none
  | some (.error e, δ') => some (.error e, δ')
  | _ => none
def itR2 (o1 o2 : Dl → Rs) : Il := fun δ => match o1 δ with
  | some (.ok (.int i), δ1) => match o2 δ1 with
    | some (.ok (.int j), δ') => if -(2 ^ 62) ≤ i ∧ i < 2 ^ 62 ∧ -(2 ^ 62) ≤ j ∧ j < 2 ^ 62 then some (.ok ((List.range (j - i).toNat).map fun n => T.int (i + (n : Nat))), δ') else none
    | some (.error e, δ') => some (.error e, δ')
    | _ => none
  | some (.error e, δ') => some (.error e, δ')
  | _ => none
def itEn (f : Dl → Rs) : Il := fun δ => match f δ with
  | some (.ok (.lst ts), δ') => some (.ok (enT ts), δ')
  | some (.error e, δ') => some (.error e, δ')
  | _ => none
/-! ### for -/
def forM : List T → Gf → Sf → Sf
  | [], _, _, δ => some (.nx, δ)
  | t :: r, g, b, δ => match g t δ with
    | none => none
    | some δ1 => match b δ1 with
      | none => none
      | some (.nx, δ2) => forM r g b δ2
      | some (.cont, δ2) => forM r g b δ2
      | some (.brk, δ2) => some (.nx, δ2)
      | some (.ret t, δ2) => some (.ret t, δ2)
      | some (.exc e, δ2) => some (.exc e, δ2)
def sFor (its : Il) (g : Gf) (b : Sf) : Sf := fun δ => match its δ with
  | none => none
  | some (.error e, δ') => some (.exc e, δ')
  | some (.ok ts, δ') => forM ts g b δ'
variable {c : Cf} {body : List Stmt}
/-! ### while -/
end
end NQ
namespace NQ
open PySem L2
/-! ### comprehensions -/
def wipeD (δ : Dl) : List Nat → Dl
  | [] => δ
  | v :: vs => (wipeD δ vs).set v none
theorem wipeD_len {δ : Dl} : ∀ {vs : List Nat}, (wipeD δ vs).length = δ.length
  | [] => rfl
  | v :: vs => by unfold wipeD; rw [List.length_set, wipeD_len]
theorem wipeD_out {δ : Dl} {i : Nat} : ∀ {vs : List Nat}, i ∉ vs → dAt (wipeD δ vs) i = dAt δ i
  | [], _ => rfl
  | v :: vs, h => by
    unfold wipeD
    rw [dAt_set_ne (fun z => h (by rw [z]; exact List.mem_cons_self ..))]
    exact wipeD_out fun z => h (List.mem_cons_of_mem _ z)
theorem wipeD_in {δ : Dl} {i : Nat} : ∀ {vs : List Nat}, i ∈ vs → dAt (wipeD δ vs) i = none
  | v :: vs, h => by
    unfold wipeD
    by_cases z : i = v
    · subst z
      cases q : dAt ((wipeD δ vs).set i none) i with
      | none => rfl
      | some t => exact absurd (dAt_set_eq q) (by simp)
    · rw [dAt_set_ne z]
      exact wipeD_in ((List.mem_cons.mp h).elim (fun w => absurd w z) id)
theorem wipe_out {σ : L2.St} {i : Nat} : ∀ {vs : List Nat}, i ∉ vs → (wipe σ vs)[i]? = σ[i]?
  | [], _ => rfl
  | v :: vs, h => by
    unfold wipe
    rw [List.getElem?_set_ne (fun z => h (by rw [← z]; exact List.mem_cons_self ..))]
    exact wipe_out fun z => h (List.mem_cons_of_mem _ z)
theorem wipe_in {σ : L2.St} {i : Nat} : ∀ {vs : List Nat}, i ∈ vs → i < σ.length → (wipe σ vs)[i]? = some none
  | v :: vs, h, hl => by
    unfold wipe
    by_cases z : v = i
    · subst z
      rw [List.getElem?_set_self (by rw [wipe_length]; exact hl)]
    · rw [List.getElem?_set_ne z]
      exact wipe_in ((List.mem_cons.mp h).elim (fun w => absurd w.symm z) id) hl
theorem On.wipe {ns vs : List Nat} {σ σ' : L2.St} (h : On ns σ σ') (hs : ∀ i ∈ ns, i ∈ vs) : L2.wipe σ' vs = L2.wipe σ vs := by
  refine List.ext_getElem? fun i => ?_
  by_cases hi : i ∈ vs
  · by_cases hl : i < σ.length
    · rw [wipe_in hi hl, wipe_in hi (by rw [h.1]; exact hl)]
    · rw [List.getElem?_eq_none_iff.mpr (by rw [wipe_length, h.1]; omega), List.getElem?_eq_none_iff.mpr (by rw [wipe_length]; omega)]
  · rw [wipe_out hi, wipe_out hi]
    exact h.2 i fun z => hi (hs i z)
section
variable {K : PySem.W.Frag} {sh : Nat → Sh} {W : Addr → Prop} {Y : List Addr} {Fm : Nat → List Addr} {H H' : Hp} {σ : L2.St} {δ : Dl} {vs : List Nat}
theorem Fr.wipe (f : Fr K sh W Y Fm H σ δ) (hv : ∀ i ∈ vs, sh i = .fz) : Fr K sh W Y Fm H (L2.wipe σ vs) (wipeD δ vs) := by
  refine ⟨fun i t e => ?_, fun i e => ?_, f.nd, f.dj, f.dw, f.wl, by rw [wipeD_len, wipe_length]; exact f.len, f.xn, f.xd, f.xw, f.xl⟩
  · by_cases hi : i ∈ vs
    · rw [wipeD_in hi] at e; cases e
    · rw [wipeD_out hi] at e
      obtain ⟨v, h1, h2⟩ := f.rel i t e
      exact ⟨v, by rw [wipe_out hi]; exact h1, h2⟩
  · by_cases hi : i ∈ vs
    · exact f.fz0 (hv i hi)
    · rw [wipeD_out hi] at e
      exact f.un i e
end
/-- the items that a comprehension makes -/
def lcL (g : Gf) (cnd : Dl → Rb) (el : Dl → Rs) (vs : List Nat) : List T → Dl → Option (List T × Dl)
  | [], δ => some ([], δ)
  | t :: r, δ => match g t δ with
    | none => none
    | some δ1 => match cnd δ1 with
      | some (.ok true, δ2) => match el δ2 with
        | some (.ok u, δ3) => match lcL g cnd el vs r (wipeD δ3 vs) with
          | some (us, δ4) => some (u :: us, δ4)
          | none => none
        | _ => none
      | some (.ok false, δ2) => lcL g cnd el vs r (wipeD δ2 vs)
      | _ => none
def lcE (its : Il) (g : Gf) (cnd : Dl → Rb) (el : Dl → Rs) (vs : List Nat) : Dl → Rs := fun δ => match its δ with
  | none => none
  | some (.error e, δ') => some (.error e, δ')
  | some (.ok ts, δ') => if ts.length < sizeLine then (match lcL g cnd el vs ts (wipeD δ' vs) with
    | some (us, δ2) => some (.ok (.lst us), δ2)
    | none => none) else none
section
variable {X : Cx} {K : PySem.W.Frag} {c : Cf} {Wx : WX} {its : Il} {g : Gf} {cnd : Dl → Rb} {el : Dl → Rs} {vs ns : List Nat} {σ : L2.St} {H : Hp} {Q : VK}
end
end NQ
namespace NQ
open PySem L2
/-! ### comprehensions as expressions -/
def yesB : Dl → Rb := fun δ => some (.ok true, δ)
section
variable {X : Cx} {K : PySem.W.Frag} {c : Cf} {Wx : WX} {its : Il} {g : Gf} {cnd : Dl → Rb} {el : Dl → Rs} {ns : List Nat} {elt tg iter : Expr} {ifs : List Expr} {scope : Scope} {own : List (Str × Nat)} {pos : Pos}
variable {y : Str} {py spos : Pos}
end
/-! ### places in what is one's own -/
inductive Pt where
  | fld (c f : Str) | ix (k : Int)
def setAt {α : Type} (xs : List α) (k : Int) (x : α) : Option (List α) := match ixN xs.length k with
  | some j => some (xs.set j x)
  | none => none
/-- the part f of an object -/
def fldAt : List Str → List T → Str → Option T
  | f :: fs, t :: ts, g => if f = g then some t else fldAt fs ts g
  | _, _, _ => none
def fldSet : List Str → List T → Str → T → Option (List T)
  | f :: fs, t :: ts, g, u => if f = g then some (u :: ts) else (match fldSet fs ts g u with | some r => some (t :: r) | none => none)
  | _, _, _, _ => none
def getP : T → List Pt → Option T
  | t, [] => some t
  | .ins c fs ts, .fld c' f :: π => if c = c' then (match fldAt fs ts f with | some u => getP u π | none => none) else none
  | .lst ts, .ix k :: π => match atI ts k with
    | some u => getP u π
    | none => none
  | _, _ :: _ => none
def setP : T → List Pt → T → Option T
  | _, [], w => some w
  | .ins c fs ts, .fld c' f :: π, w => if c = c' then (match fldAt fs ts f with
      | some u => match setP u π w with
        | some u' => match fldSet fs ts f u' with
          | some ts' => some (.ins c fs ts')
          | none => none
        | none => none
      | none => none) else none
  | .lst ts, .ix k :: π, w => match atI ts k with
    | some u => match setP u π w with
      | some u' => match setAt ts k u' with
        | some ts' => some (.lst ts')
        | none => none
      | none => none
    | none => none
  | _, _ :: _, _ => none
def shP : Sh → List Pt → Option Sh
  | s, [] => some s
  | .flds d, .fld _ f :: π => shP ((d.lookup f).getD .fz) π
  | .all s, .ix _ :: π => shP s π
  | _, _ :: _ => none
/-- the value at a place -/
def pathV (K : PySem.W.Frag) (H : Hp) : V → List Pt → V → Prop
  | v, [], v' => v = v'
  | v, .fld c f :: π, v' => ∃ a dx fs u, v = .ref a ∧ H a = some (.ins (He.ga K c) dx fs) ∧ fs.lookup f = some u ∧ pathV K H u π v'
  | v, .ix k :: π, v' => ∃ a vs u, v = .ref a ∧ H a = some (.lst vs) ∧ atI vs k = some u ∧ pathV K H u π v'
end NQ
namespace NQ
open PySem L2
section
variable {K : PySem.W.Frag} {G : Addr → Prop} {H : Hp}
/-- one part of several that are one's own -/
theorem OwL.split : ∀ {ss : List Sh} {F : List Addr} {vs : List V} {ts : List T} {j : Nat} {t : T}, OwL K G H ss F vs ts → ts[j]? = some t → F.Nodup → (∀ a ∈ F, G a) → ∃ F1 F2 F3 v s, F = F1 ++ F2 ++ F3 ∧ ss[j]? = some s ∧ vs[j]? = some v ∧ Ow K G H s F2 v t ∧
    ∀ (G' U : Addr → Prop) (H' : Hp) (F2' : List Addr) (t' : T), EdP U H H' → (∀ a, U a → a ∈ F2 ∨ H a = none) → (∀ a, G' a → G a ∨ H a = none) → Ow K G' H' s F2' v t' → OwL K G' H' ss (F1 ++ F2' ++ F3) vs (ts.set j t')
  | _, _, _, _, j, t, .nil, e, _, _ => by simp at e
  | s :: ss, _, v :: vs, u :: ts, 0, t, .cons (F := F) (F' := F') h r, e, nd, hG => by
    simp at e
    subst e
    have nx := List.nodup_append.mp nd
    refine ⟨[], F, F', v, s, by simp, rfl, rfl, h, fun G' U H' F2' t' ed hu hg o => ?_⟩
    rw [List.nil_append]
    refine OwL.cons o (r.step ed (fun a z => (hu a z).imp (fun w => hG a (List.mem_append_left _ w)) id) hg fun a z w => ?_)
    exact (hu a w).elim (fun y => nx.2.2 a y a z rfl) fun y => r.alive a z y
  | s :: ss, _, v :: vs, u :: ts, j + 1, t, .cons (F := F) (F' := F') h r, e, nd, hG => by
    have nx := List.nodup_append.mp nd
    obtain ⟨F1, F2, F3, v', s', eF, h1, h2, h3, h4⟩ := OwL.split (j := j) r (by simpa using e) nx.2.1 fun a z => hG a (List.mem_append_right _ z)
    refine ⟨F ++ F1, F2, F3, v', s', by rw [eF]; simp [List.append_assoc], by simpa using h1, by simpa using h2, h3, fun G' U H' F2' t' ed hu hg o => ?_⟩
    have := OwL.cons (h.step ed (fun a z => (hu a z).imp (fun w => hG a (List.mem_append_right _ (by rw [eF]; exact List.mem_append_left _ (List.mem_append_right _ w)))) id) hg fun a z w => (hu a w).elim (fun y => nx.2.2 a z a (by rw [eF]; exact List.mem_append_left _ (List.mem_append_right _ y)) rfl) fun y => h.alive a z y) (h4 G' U H' F2' t' ed hu hg o)
    rw [List.set_cons_succ]
    have e2 : F ++ F1 ++ F2' ++ F3 = F ++ (F1 ++ F2' ++ F3) := by simp [List.append_assoc]
    rw [e2]
    exact this
theorem fld_idx : ∀ {fs : List Str} {ts : List T} {f : Str} {u : T}, fldAt fs ts f = some u → ∃ j : Nat, fs[j]? = some f ∧ ts[j]? = some u ∧ (∀ w, fldSet fs ts f w = some (ts.set j w)) ∧ ∀ vs : List V, fs.length = vs.length → (fs.zip vs).lookup f = vs[j]?
  | [], _, _, _, e => by simp [fldAt] at e
  | _ :: _, [], _, _, e => by simp [fldAt] at e
  | g :: fs, t :: ts, f, u, e => by
    unfold fldAt at e
    by_cases z : g = f
    · rw [if_pos z] at e
      cases e
      subst z
      refine ⟨0, rfl, rfl, fun w => by unfold fldSet; rw [if_pos rfl]; rfl, fun vs hl => ?_⟩
      cases vs with
      | nil => simp at hl
      | cons v vs => simp [List.lookup]
    · rw [if_neg z] at e
      obtain ⟨j, h1, h2, h3, h4⟩ := fld_idx e
      refine ⟨j + 1, by simpa using h1, by simpa using h2, fun w => by rw [fldSet, if_neg z, h3 w]; rfl, fun vs hl => ?_⟩
      cases vs with
      | nil => simp at hl
      | cons v vs =>
        have : (f == g) = false := by simpa using fun q => z q.symm
        simp only [List.zip_cons_cons, List.lookup, this]
        rw [h4 vs (by simpa using hl)]
        simp
theorem atI_ix {α : Type} {ys : List α} {i : Int} {y : α} (e : atI ys i = some y) : ∃ j : Nat, ixN ys.length i = some j ∧ ys[j]? = some y := by
  unfold atI at e
  cases q : ixN ys.length i with
  | none => rw [q] at e; cases e
  | some j => rw [q] at e; exact ⟨j, rfl, e⟩
/-- what lies at a place of what is one's own, and what it is when that changes -/
theorem focus : ∀ {π : List Pt} {s s' : Sh} {F : List Addr} {v : V} {t t' : T}, Ow K G H s F v t → shP s π = some s' → getP t π = some t' → F.Nodup → (∀ a ∈ F, G a) → ∃ F1 F2 F3 v', F = F1 ++ F2 ++ F3 ∧ Ow K G H s' F2 v' t' ∧ pathV K H v π v' ∧
    ∀ (G' U : Addr → Prop) (H' : Hp) (F2' : List Addr) (w : T), EdP U H H' → (∀ a, U a → a ∈ F2 ∨ H a = none) → (∀ a, G' a → G a ∨ H a = none) → Ow K G' H' s' F2' v' w → ∃ t2, setP t π w = some t2 ∧ Ow K G' H' s (F1 ++ F2' ++ F3) v t2
  | [], s, s', F, v, t, t', o, hs, hg, nd, hG => by
    have es : s = s' := by cases s <;> exact Option.some.inj hs
    have et : t = t' := by cases t <;> exact Option.some.inj hg
    subst es et
    exact ⟨[], F, [], v, by simp, o, rfl, fun G' U H' F2' w ed hu hg o' => ⟨w, by cases t <;> rfl, by simpa using o'⟩⟩
  | .fld c f :: π, .flds d, s', _, _, t, t', .nd (a := a) (F := F) (vs := vs) (ss := ss) ce k r, hs, hg, nd, hG => by
    cases t with
    | ins c' fs ts =>
      unfold getP at hg
      split at hg
      · rename_i ec
        subst ec
        split at hg
        · rename_i u q
          obtain ⟨j, j1, j2, j3, j4⟩ := fld_idx q
          cases k
          have nn := List.nodup_cons.mp nd
          obtain ⟨F1, F2, F3, v1, s1, eF, h1, h2, h3, h4⟩ := r.split (j := j) j2 nn.2 fun b z => hG b (List.mem_cons_of_mem _ z)
          rw [List.getElem?_map, j1] at h1
          cases h1
          have n2 : F2.Nodup := by rw [eF] at nn; exact (List.nodup_append.mp (List.nodup_append.mp nn.2).1).2.1
          obtain ⟨P1, P2, P3, v', eP, q1, q2, q3⟩ := focus (π := π) h3 hs hg n2 fun b z => hG b (List.mem_cons_of_mem _ (by rw [eF]; exact List.mem_append_left _ (List.mem_append_right _ z)))
          obtain ⟨cl, dx, ch⟩ := ce
          refine ⟨a :: (F1 ++ P1), P2, P3 ++ F3, v', by rw [eF, eP]; simp [List.append_assoc], q1, ⟨a, dx, _, v1, rfl, ch, ?_, q2⟩, fun G' U H' F2' w ed hu hg' o' => ?_⟩
          · rw [j4 vs cl]; exact h2
          · have hu2 : ∀ b, U b → b ∈ F2 ∨ H b = none := fun b z => (hu b z).imp (fun y => by rw [eP]; exact List.mem_append_left _ (List.mem_append_right _ y)) id
            obtain ⟨u2, w1, w2⟩ := q3 G' U H' F2' w ed hu hg' o'
            have w3 := h4 G' U H' _ u2 ed hu2 hg' w2
            refine ⟨.ins c' fs (ts.set j u2), ?_, ?_⟩
            · unfold setP
              rw [if_pos rfl]
              simp only [q, w1, j3]
            · have na : ¬ U a := fun z => (hu2 a z).elim (fun y => nn.1 (by rw [eF]; exact List.mem_append_left _ (List.mem_append_right _ y))) fun y => by rw [ch] at y; cases y
              have := Ow.nd (s := .flds d) (t := .ins c' fs (ts.set j u2)) (vs := vs) ⟨cl, dx, ed.1 _ _ na ch⟩ rfl w3
              have e2 : a :: (F1 ++ P1) ++ F2' ++ (P3 ++ F3) = a :: (F1 ++ (P1 ++ F2' ++ P3) ++ F3) := by simp [List.append_assoc]
              rw [e2]
              exact this
        · cases hg
      · cases hg
    | _ => cases hg
  | .ix n :: π, .all s, s', _, _, t, t', .nd (a := a) (F := F) (vs := vs) (ss := ss) ce k r, hs, hg, nd, hG => by
    cases t with
    | lst ts =>
      unfold getP at hg
      split at hg
      · rename_i u q
        cases k
        have nn := List.nodup_cons.mp nd
        have hl : vs.length = ts.length := r.rp.length
        obtain ⟨j, jx, j1⟩ := atI_ix q
        have j2 : atI vs n = vs[j]? := by unfold atI; rw [hl, jx]; rfl
        obtain ⟨F1, F2, F3, v1, s1, eF, h1, h2, h3, h4⟩ := r.split (j := j) j1 nn.2 fun b z => hG b (List.mem_cons_of_mem _ z)
        rw [List.getElem?_map, j1] at h1
        cases h1
        have n2 : F2.Nodup := by rw [eF] at nn; exact (List.nodup_append.mp (List.nodup_append.mp nn.2).1).2.1
        obtain ⟨P1, P2, P3, v', eP, q1, q2, q3⟩ := focus (π := π) h3 hs hg n2 fun b z => hG b (List.mem_cons_of_mem _ (by rw [eF]; exact List.mem_append_left _ (List.mem_append_right _ z)))
        refine ⟨a :: (F1 ++ P1), P2, P3 ++ F3, v', by rw [eF, eP]; simp [List.append_assoc], q1, ⟨a, vs, v1, rfl, ce, by rw [j2]; exact h2, q2⟩, fun G' U H' F2' w ed hu hg' o' => ?_⟩
        have hu2 : ∀ b, U b → b ∈ F2 ∨ H b = none := fun b z => (hu b z).imp (fun y => by rw [eP]; exact List.mem_append_left _ (List.mem_append_right _ y)) id
        obtain ⟨u2, w1, w2⟩ := q3 G' U H' F2' w ed hu hg' o'
        have w3 := h4 G' U H' _ u2 ed hu2 hg' w2
        have hset : setAt ts n u2 = some (ts.set j u2) := by unfold setAt; rw [jx]
        refine ⟨.lst (ts.set j u2), ?_, ?_⟩
        · unfold setP
          simp only [q, w1, hset]
        · have na : ¬ U a := fun z => (hu2 a z).elim (fun y => nn.1 (by rw [eF]; exact List.mem_append_left _ (List.mem_append_right _ y))) fun y => by rw [show H a = some (.lst vs) from ce] at y; cases y
          have := Ow.nd (s := .all s) (t := .lst (ts.set j u2)) (vs := vs) (ss := (ts.set j u2).map fun _ => s) (ed.1 _ _ na ce) rfl (by
            have e3 : ((ts.set j u2).map fun _ => s) = (T.lst ts).kids.map fun _ => s := by
              show _ = ts.map fun _ => s
              rw [List.map_set]
              exact List.ext_getElem? fun i => by
                by_cases z : j = i
                · subst z
                  by_cases lt : j < ts.length
                  · rw [List.getElem?_set_self (by simpa using lt), List.getElem?_map, List.getElem?_eq_getElem lt]; rfl
                  · rw [List.getElem?_eq_none_iff.mpr (by simp; omega), List.getElem?_eq_none_iff.mpr (by simp; omega)]
                · rw [List.getElem?_set_ne z]
            rw [e3]
            exact w3)
          have e2 : a :: (F1 ++ P1) ++ F2' ++ (P3 ++ F3) = a :: (F1 ++ (P1 ++ F2' ++ P3) ++ F3) := by simp [List.append_assoc]
          rw [e2]
          exact this
      · cases hg
    | _ => cases hg
  | .fld c f :: π, .fz, s', _, _, t, t', _, hs, _, _, _ => by cases hs
  | .fld c f :: π, .vw, s', _, _, t, t', _, hs, _, _, _ => by cases hs
  | .fld c f :: π, .xc _ _ _ _, s', _, _, t, t', _, hs, _, _, _ => by cases hs
  | .fld c f :: π, .all _, s', _, _, t, t', _, hs, _, _, _ => by cases hs
  | .fld c f :: π, .row _, s', _, _, t, t', _, hs, _, _, _ => by cases hs
  | .fld c f :: π, .opt _, s', _, _, t, t', _, hs, _, _, _ => by cases hs
  | .ix n :: π, .fz, s', _, _, t, t', _, hs, _, _, _ => by cases hs
  | .ix n :: π, .vw, s', _, _, t, t', _, hs, _, _, _ => by cases hs
  | .ix n :: π, .xc _ _ _ _, s', _, _, t, t', _, hs, _, _, _ => by cases hs
  | .ix n :: π, .flds _, s', _, _, t, t', _, hs, _, _, _ => by cases hs
  | .ix n :: π, .row _, s', _, _, t, t', _, hs, _, _, _ => by cases hs
  | .ix n :: π, .opt _, s', _, _, t, t', _, hs, _, _, _ => by cases hs
end
end NQ
namespace NQ
open PySem L2
/-! ### expressions that name a place -/
def eP (i : Nat) (π : List Pt) : Qf := fun δ => match dAt δ i with
  | some t => getP t π
  | none => none
section
variable {K : PySem.W.Frag} {H : Hp}
end
section
variable {X : Cx} {K : PySem.W.Frag} {sh : Nat → Sh} {e o k : Expr} {i : Nat} {π : List Pt} {pos : Pos}
/-- a place is read -/
theorem Fr.place {W : Addr → Prop} {Y : List Addr} {Fm : Nat → List Addr} {H : Hp} {σ : L2.St} {δ : Dl} {t t' : T} {s' : Sh} (f : Fr K sh W Y Fm H σ δ) (e : dAt δ i = some t) (hs : shP (sh i) π = some s') (hn : (sh i).pln = true) (hg : getP t π = some t') :
    ∃ v v' F2, σ[i]? = some (some v) ∧ pathV K H v π v' ∧ Ow K (Gw Y Fm W) H s' F2 v' t' := by
  obtain ⟨v, h1, h2⟩ := f.rel i t e
  obtain ⟨F1, F2, F3, v', eF, k1, k2, k3⟩ := focus (h2.own hn) hs hg (f.nd i) fun a z => .inl (.inr ⟨i, z⟩)
  exact ⟨v, v', F2, h1, k2, k1⟩
/-- a place is written: what it holds is told anew -/
theorem Fr.put {W : Addr → Prop} {N Y : List Addr} {Fm : Nat → List Addr} {H : Hp} {σ : L2.St} {δ : Dl} {t t' : T} {s' : Sh} (f : Fr K sh W (N ++ Y) Fm H σ δ) (e : dAt δ i = some t) (hs : shP (sh i) π = some s') (hn : (sh i).pln = true) (hg : getP t π = some t') :
    ∃ v v' F2, σ[i]? = some (some v) ∧ pathV K H v π v' ∧ Ow K (Gw (N ++ Y) Fm W) H s' F2 v' t' ∧ F2.Nodup ∧ (∀ a ∈ F2, a ∈ Fm i) ∧
      ∀ (U : Addr → Prop) (H' : Hp) (F2' : List Addr) (w : T), EdP U H H' → (∀ a, U a → a ∈ F2) → F2'.Nodup → (∀ a ∈ F2', a ∈ F2 ∨ a ∈ N) → Ow K (Gw (N ++ Y) Fm W) H' s' F2' v' w →
        ∃ t2 Fm', setP t π w = some t2 ∧ Fr K sh W Y Fm' H' σ (δ.set i (some t2)) ∧ (∀ a, Om Fm' a → a ∈ N ∨ Om Fm a) := by
  obtain ⟨v, h1, h2⟩ := f.rel i t e
  obtain ⟨F1, F2, F3, v', eF, k1, k2, k3⟩ := focus (h2.own hn) hs hg (f.nd i) fun a z => .inl (.inr ⟨i, z⟩)
  have nd := f.nd i
  rw [eF] at nd
  have n12 := List.nodup_append.mp nd
  have n1 := List.nodup_append.mp n12.1
  have m2 : ∀ a ∈ F2, a ∈ Fm i := fun a z => by rw [eF]; exact List.mem_append_left _ (List.mem_append_right _ z)
  have m1 : ∀ a ∈ F1, a ∈ Fm i := fun a z => by rw [eF]; exact List.mem_append_left _ (List.mem_append_left _ z)
  have m3 : ∀ a ∈ F3, a ∈ Fm i := fun a z => by rw [eF]; exact List.mem_append_right _ z
  refine ⟨v, v', F2, h1, k2, k1, n1.2.1, m2, fun U H' F2' w ed hu nd2 hsub o => ?_⟩
  have nx := List.nodup_append.mp f.xn
  let Fm' : Nat → List Addr := fun j => if j = i then F1 ++ F2' ++ F3 else Fm j
  have hm : ∀ j a, a ∈ Fm' j → (j = i ∧ (a ∈ Fm i ∨ a ∈ N)) ∨ (j ≠ i ∧ a ∈ Fm j) := fun j a z => by
    by_cases y : j = i
    · simp only [Fm', if_pos y] at z
      refine .inl ⟨y, ?_⟩
      rcases List.mem_append.mp z with z | z
      · rcases List.mem_append.mp z with z | z
        · exact .inl (m1 a z)
        · exact (hsub a z).imp (m2 a) id
      · exact .inl (m3 a z)
    · simp only [Fm', if_neg y] at z
      exact .inr ⟨y, z⟩
  have hgm : ∀ a, Gm Y Fm' a → Gm (N ++ Y) Fm a := fun a z => by
    rcases z with z | ⟨j, z⟩
    · exact .inl (List.mem_append_right _ z)
    · rcases hm j a z with ⟨_, z | z⟩ | ⟨_, z⟩
      · exact .inr ⟨i, z⟩
      · exact .inl (List.mem_append_left _ z)
      · exact .inr ⟨j, z⟩
  have hgw : ∀ a, Gw Y Fm' W a → Gw (N ++ Y) Fm W a := fun a z => z.imp (hgm a) id
  obtain ⟨t2, w1, w2⟩ := k3 (Gw Y Fm' W) U H' F2' w ed (fun a z => .inl (hu a z)) (fun a z => .inl (hgw a z)) (o.weak hgw)
  have il := dAt_lt e
  refine ⟨t2, Fm', w1, ⟨fun j u ej => ?_, fun j ej => ?_, fun j => ?_, fun j l a n q q2 => ?_, fun j a q => ?_, fun a z => ed.2.2 a (f.wl a z), by simpa using f.len, nx.2.1, fun j a q q2 => ?_, fun a q => f.xw a (List.mem_append_right _ q), fun a q => ed.2.2 a (f.xl a (List.mem_append_right _ q))⟩, fun a ⟨j, z⟩ => ?_⟩
  · by_cases y : j = i
    · subst y
      have e2 := dAt_set_eq ej
      cases e2
      refine ⟨v, h1, .inr ?_⟩
      simp only [Fm', if_pos]
      exact w2
    · rw [dAt_set_ne y] at ej
      obtain ⟨x, q1, q2⟩ := f.rel j u ej
      refine ⟨x, q1, ?_⟩
      have e3 : Fm' j = Fm j := if_neg y
      rw [e3]
      exact q2.step ed (fun a z => .inl (.inr ⟨i, m2 a (hu a z)⟩)) (fun a z => .inl (hgw a z)) (fun a z => .inl (hgm a z)) fun a z z2 => f.dj j i a y z (m2 a (hu a z2))
  · by_cases y : j = i
    · subst y
      rw [dAt_set_self il] at ej
      cases ej
    · rw [dAt_set_ne y] at ej
      show (if j = i then _ else Fm j) = []
      rw [if_neg y]
      exact f.un j ej
  · by_cases y : j = i
    · show List.Nodup (if j = i then _ else Fm j)
      rw [if_pos y]
      refine List.nodup_append.mpr ⟨List.nodup_append.mpr ⟨n1.1, nd2, fun a z b z2 eq => ?_⟩, n12.2.1, fun a z b z2 eq => ?_⟩
      · subst eq
        rcases hsub a z2 with z2 | z2
        · exact n1.2.2 a z a z2 rfl
        · exact f.xd i a (List.mem_append_left _ z2) (m1 a z)
      · subst eq
        rcases List.mem_append.mp z with z | z
        · exact n12.2.2 a (List.mem_append_left _ z) a z2 rfl
        · rcases hsub a z with z | z
          · exact n12.2.2 a (List.mem_append_right _ z) a z2 rfl
          · exact f.xd i a (List.mem_append_left _ z) (m3 a z2)
    · show List.Nodup (if j = i then _ else Fm j)
      rw [if_neg y]
      exact f.nd j
  · rcases hm j a q with ⟨y1, y2 | y2⟩ | ⟨y1, y2⟩ <;> rcases hm l a q2 with ⟨x1, x2 | x2⟩ | ⟨x1, x2⟩
    · exact n (y1.trans x1.symm)
    · exact n (y1.trans x1.symm)
    · exact f.dj i l a (fun z => x1 z.symm) y2 x2
    · exact n (y1.trans x1.symm)
    · exact n (y1.trans x1.symm)
    · exact f.xd l a (List.mem_append_left _ y2) x2
    · exact f.dj j i a y1 y2 x2
    · exact f.xd j a (List.mem_append_left _ x2) y2
    · exact f.dj j l a n y2 x2
  · rcases hm j a q with ⟨y1, y2 | y2⟩ | ⟨y1, y2⟩
    · exact f.dw i a y2
    · exact f.xw a (List.mem_append_left _ y2)
    · exact f.dw j a y2
  · rcases hm j a q2 with ⟨y1, y2 | y2⟩ | ⟨y1, y2⟩
    · exact f.xd i a (List.mem_append_right _ q) y2
    · exact nx.2.2 a y2 a q rfl
    · exact f.xd j a (List.mem_append_right _ q) y2
  · rcases hm j a z with ⟨y1, y2 | y2⟩ | ⟨y1, y2⟩
    · exact .inr ⟨i, y2⟩
    · exact .inl y2
    · exact .inr ⟨j, y2⟩
end
/-! ### append -/
theorem OwL.snoc {K : PySem.W.Frag} {G : Addr → Prop} {H : Hp} {s : Sh} {N : List Addr} {y : V} {u : T} (o : Ow K G H s N y u) : ∀ {ss : List Sh} {F : List Addr} {vs : List V} {ts : List T}, OwL K G H ss F vs ts → OwL K G H (ss ++ [s]) (F ++ N) (vs ++ [y]) (ts ++ [u])
  | _, _, _, _, .nil => by
    have := OwL.cons o OwL.nil
    simpa using this
  | _, _, _, _, .cons (F := F) (F' := F') h r => by
    have := OwL.cons h (OwL.snoc o r)
    rw [List.append_assoc]
    exact this
/-- the root of a list of one's own -/
theorem Ow.list {K : PySem.W.Frag} {G : Addr → Prop} {H : Hp} {s : Sh} {F : List Addr} {v : V} {ts : List T} (h : Ow K G H (.all s) F v (.lst ts)) : ∃ a F' vs, v = .ref a ∧ F = a :: F' ∧ H a = some (.lst vs) ∧ OwL K G H (ts.map fun _ => s) F' vs ts := by
  cases h with
  | nd c k r => cases k; exact ⟨_, _, _, rfl, rfl, c, r⟩
end NQ
namespace NQ
open PySem L2
/-! ### x.append(e), x a list of one's own -/
def fApp (i : Nat) (f : Dl → Rs) : Dl → Rs := fun δ => match dAt δ i with
  | some (.lst _) => match f δ with
    | none => none
    | some (.error e, δ') => some (.error e, δ')
    | some (.ok u, δ') => match dAt δ' i with
      | some (.lst ts) => if ts.length < sizeLine then some (.ok .non, δ'.set i (some (.lst (ts ++ [u])))) else none
      | _ => none
  | _ => none
section
variable {X : Cx} {K : PySem.W.Frag} {sh : Nat → Sh} {Wx : WX} {o e : Expr} {i : Nat} {f : Dl → Rs} {apos cpos : Pos}
/-! ### x[k] = e -/
end
def sSetIx (i : Nat) (fk : Qf) (f : Dl → Rs) : Sf := fun δ => match f δ with
  | none => none
  | some (.error e, δ') => some (.exc e, δ')
  | some (.ok u, δ') => match fk δ' with
    | some (.int n) => match dAt δ' i with
      | some (.lst ts) => match setAt ts n u with
        | some ts' => some (.nx, δ'.set i (some (.lst ts')))
        | none => none
      | _ => none
    | _ => none
section
variable {X : Cx} {K : PySem.W.Frag} {c : Cf} {Wx : WX} {o e k : Expr} {i : Nat} {f : Dl → Rs} {fk : Qf} {pos pos' : Pos}
/-! ### x += e, x a number -/
def sAug (i : Nat) (op : Op) (f : Dl → Rs) : Sf := fun δ => match dAt δ i with
  | some a => match f δ with
    | none => none
    | some (.error e, δ') => some (.exc e, δ')
    | some (.ok b, δ') => match op [a, b] with
      | some c => some (.nx, δ'.set i (some c))
      | none => none
  | none => none
def addI : Op
  | [.int i, .int j] => some (.int (i + j))
  | _ => none
def subI : Op
  | [.int i, .int j] => some (.int (i - j))
  | _ => none
end
/-! ### the rules by name -/
section
variable {X : Cx} {K : PySem.W.Frag} {a b : Expr} {pos p : Pos}
abbrev inA : Op := altT inT dinT
abbrev ninA : Op := altT ninT dninT
abbrev ixRA : Op := altT ixR dgetR
abbrev ixA : Op := altT ixRA (altT ixD dgetD)
end
end NQ
namespace NQ
open PySem L2
/-! ### lists joined, lists repeated, also those that are frozen -/
section
variable {K : PySem.W.Frag}
end
section
variable {X : Cx} {K : PySem.W.Frag} {a b c : Expr} {es : List Expr} {pos p : Pos}
abbrev addA : Op := altT addR addL
abbrev mulA : Op := altT mulR mulL
/-! ### calls of what is built in -/
abbrev listA : Op := altT listT listS
/-! ### isinstance, what is built in -/
def T.tyn : T → Option String
  | .non => some "NoneType" | .bl _ => some "bool" | .int _ => some "int" | .str _ => some "str"
  | .lst _ => some "list" | .tup _ => some "tuple" | .ctup _ => some "tuple" | .clst _ => some "list"
  | _ => none
def baseTys : List String := ["NoneType", "bool", "int", "str", "list", "tuple", "dict"]
def subB (m n : String) : Option Bool := if m ∈ baseTys ∧ n ∈ baseTys then some (m == n || (m == "bool" && n == "int")) else none
def isiT : Op
  | [t, .ty n] => match t.tyn with
    | some m => match subB m n with | some b => some (.bl b) | none => none
    | none => none
  | _ => none
end
end NQ
namespace NQ
open PySem L2
/-! ### a and b, a or b as values -/
def truW : T → Option Bool
  | .non => some false
  | .bl b => some b
  | .int i => some (i != 0)
  | .str z => if z.length ≤ sizeLine then some ((z.length : Int) != 0) else none
  | .lst ts => some (!ts.isEmpty)
  | .tup ts => some (!ts.isEmpty)
  | _ => none
theorem Rp.truW {K : PySem.W.Frag} {H : Hp} {x : V} {t : T} {b : Bool} (h : Rp K H x t) (e : truW t = some b) : TruV K x H b := by
  have e2 : truT t = some b := by
    cases t <;> first
      | exact e
      | cases e
  rcases h.tru e2 with z | ⟨p, rfl, z⟩
  · exact z
  · exfalso
    have z : (∃ o, (∃ xs, o = HO.dT xs) ∧ Rd H p o) ∨ ∃ o, (∃ xs, o = HO.dK xs) ∧ Rd H p o := z.imp (fun ⟨k, q, _⟩ => ⟨_, ⟨k, rfl⟩, q⟩) fun ⟨k, q, _⟩ => ⟨_, ⟨k, rfl⟩, q⟩
    have z : ∃ o, (∀ xs, o ≠ HO.lst xs) ∧ (∀ xs, o ≠ HO.tup xs) ∧ (∀ xs, HO.lst xs ≠ o) ∧ Rd H p o ∧ ∀ u v, o ≠ .frz u v := by
      rcases z with ⟨_, ⟨xs, rfl⟩, z⟩ | ⟨_, ⟨xs, rfl⟩, z⟩
      · exact ⟨.dT xs, (fun _ q => nomatch q), (fun _ q => nomatch q), (fun _ q => nomatch q), z, fun _ _ q => nomatch q⟩
      · exact ⟨.dK xs, (fun _ q => nomatch q), (fun _ q => nomatch q), (fun _ q => nomatch q), z, fun _ _ q => nomatch q⟩
    obtain ⟨o, n1, n2, n3, z, n4⟩ := z
    cases t with
    | dit ks ts => cases e
    | ctup ts => cases e
    | clst ts => cases e
    | dic ks ts => cases e
    | lst ts =>
      cases h with
      | sc h => exact h.elim
      | nd c _ =>
        rcases c with c | ⟨_, c⟩ <;> rcases z with z | ⟨_, z⟩ <;> rw [z] at c
        · exact n1 _ (Option.some.inj c)
        · cases c
        · exact n4 _ _ (Option.some.inj c)
        · cases c; exact n1 _ rfl
    | tup ts =>
      cases h with
      | sc h => exact h.elim
      | nd c _ =>
        have c : H p = _ := c
        rcases z with z | ⟨_, z⟩ <;> rw [z] at c
        · exact n2 _ (Option.some.inj c)
        · cases c
    | non => cases h.non
    | bl b => cases h.bl
    | int b => cases h.int
    | str b => cases h.str.1
    | ins c fs ts => cases e
    | gl x => cases e
    | ty n => cases e
def andV (f g : Qf) : Qf := fun δ => match f δ with
  | none => none
  | some t => match truW t with
    | some true => g δ
    | some false => some t
    | none => none
def orV (f g : Qf) : Qf := fun δ => match f δ with
  | none => none
  | some t => match truW t with
    | some true => some t
    | some false => g δ
    | none => none
def andW (f g : Dl → Rs) : Dl → Rs := fun δ => match f δ with
  | none => none
  | some (.error e, δ') => some (.error e, δ')
  | some (.ok t, δ') => match truW t with
    | some true => g δ'
    | some false => some (.ok t, δ')
    | none => none
def orW (f g : Dl → Rs) : Dl → Rs := fun δ => match f δ with
  | none => none
  | some (.error e, δ') => some (.error e, δ')
  | some (.ok t, δ') => match truW t with
    | some true => some (.ok t, δ')
    | some false => g δ'
    | none => none
section
variable {X : Cx} {K : PySem.W.Frag} {sh : Nat → Sh} {Wx : WX} {a b : Expr} {rest : List Expr} {pos : Pos} {f g : Qf} {u v : Dl → Rs} {op : BoolOp}
end
/-! ### a < b < c -/
def chQ (op op' : Op) (f g h : Qf) : Qf := fun δ => match f δ, g δ with
  | some x, some y => match op [x, y] with
    | some (.bl true) => match h δ with
      | some z => op' [y, z]
      | none => none
    | some (.bl false) => some (.bl false)
    | _ => none
  | _, _ => none
section
variable {X : Cx} {K : PySem.W.Frag} {sh : Nat → Sh} {Wx : WX} {a b c : Expr} {pos : Pos} {f g h : Qf} {o o' : CmpOp} {op op' : Op} {m1 m2 m3 : Md}
end
end NQ
namespace NQ
open PySem L2
/-! ### {k: v, ..} -/
def dispT (ks : List Key) : Op := fun ts => if ks.Nodup ∧ ks.length = ts.length ∧ ks.length ≤ 15 then some (.dic ks ts) else none
def fDisp (ks : List Key) (os : List Opd) : Dl → Rs := opn (dispT ks) os
section
variable {X : Cx} {K : PySem.W.Frag} {sh : Nat → Sh} {Wx : WX} {keys : List (Option Expr)} {values : List Expr} {pos : Pos} {ks : List Key} {os : List Opd}
end
/-! ### a, b = e -/
def sAsg (f : Dl → Rs) (g : Gf) : Sf := fun δ => match f δ with
  | none => none
  | some (.error e, δ') => some (.exc e, δ')
  | some (.ok t, δ') => match g t δ' with
    | some δ2 => some (.nx, δ2)
    | none => none
section
variable {X : Cx} {K : PySem.W.Frag} {c : Cf} {Wx : WX} {e tg : Expr} {pos : Pos} {f : Dl → Rs} {g : Gf} {ns : List Nat}
end
/-! ### from here on a thing of one's own is frozen, to the end of the block -/
def sFrz (i : Nat) (G : Sf) : Sf := fun δ => match dAt δ i with
  | none => none
  | some _ => match G δ with
    | none => none
    | some (fl, δ') => some (fl, δ'.set i none)
section
variable {K : PySem.W.Frag} {sh sh' : Nat → Sh} {W : Addr → Prop} {Y : List Addr} {Fm : Nat → List Addr} {H : Hp} {σ : L2.St} {δ : Dl} {i : Nat}
theorem Fr.resh (f : Fr K sh W Y Fm H σ δ) (h : ∀ j, j ≠ i → sh' j = sh j) (e : dAt δ i = none) : Fr K sh' W Y Fm H σ δ := by
  refine { f with rel := fun j t q => ?_ }
  obtain ⟨v, h1, h2⟩ := f.rel j t q
  have : j ≠ i := fun z => by rw [z, e] at q; cases q
  exact ⟨v, h1, by rw [h j this]; exact h2⟩
theorem dAt_set_none : ∀ {δ : Dl} {i : Nat}, dAt (δ.set i none) i = none
  | [], _ => rfl
  | _ :: _, 0 => rfl
  | _ :: r, i + 1 => dAt_set_none (δ := r) (i := i)
theorem dAt_same : ∀ {δ : Dl} {i : Nat} {t : T}, dAt δ i = some t → δ.set i (some t) = δ
  | [], _, _, h => by cases h
  | x :: r, 0, t, h => by show some t :: r = x :: r; rw [← show x = some t from h]
  | x :: r, i + 1, t, h => by show x :: r.set i (some t) = x :: r; rw [dAt_same (δ := r) h]
theorem Fr.drop (f : Fr K sh W Y Fm H σ δ) (h : Fm i = []) : Fr K sh W Y Fm H σ (δ.set i none) := by
  refine { f with rel := fun j t q => ?_, un := fun j q => ?_, len := by rw [List.length_set]; exact f.len }
  · by_cases z : j = i
    · subst z; rw [dAt_set_none] at q; cases q
    · rw [dAt_set_ne z] at q; exact f.rel j t q
  · by_cases z : j = i
    · subst z; exact h
    · rw [dAt_set_ne z] at q; exact f.un j q
theorem Fr.freeze {t : T} (f : Fr K sh W Y Fm H σ δ) (e : dAt δ i = some t) (hn : (sh i).pln = true) : Fr K (fun j => if j = i then .fz else sh j) W Y (fun j => if j = i then [] else Fm j) H σ δ := by
  obtain ⟨v, h1, h2⟩ := f.rel i t e
  have o := h2.own hn
  have f1 := (f.del i (some v)).let
  have f2 := f1.resh (i := i) (sh' := fun j => if j = i then .fz else sh j) (fun j z => if_neg z) dAt_set_none
  have d : Df K (Gw Y (fun j => if j = i then [] else Fm j) W) H v t := Ow.freeze (fun a z => ?_) o
  · have f3 := f2.set (i := i) (v := v) (t := t) (by simp) (.inr (by simp only [if_pos]; exact .fz d))
    rw [List.set_set, List.set_set] at f3
    have es : σ.set i (some v) = σ := by
      refine List.ext_getElem? fun j => ?_
      by_cases z : j = i
      · subst z; rw [List.getElem?_set_self (List.getElem?_eq_some_iff.mp h1).1, h1]
      · rw [List.getElem?_set_ne (fun w => z w.symm)]
    rw [es, dAt_same e] at f3
    exact f3
  · rcases z with (z | ⟨j, z⟩) | z
    · exact ⟨.inl (.inl z), f.xd i a z⟩
    · by_cases y : j = i
      · simp only [if_pos y] at z; exact absurd z List.not_mem_nil
      · simp only [if_neg y] at z
        exact ⟨.inl (.inr ⟨j, z⟩), f.dj j i a y z⟩
    · exact ⟨.inr z, fun w => f.dw i a w z⟩
end
section
variable {X : Cx} {K : PySem.W.Frag} {c : Cf} {Wx : WX} {rest : List Stmt} {G : Sf}
end
end NQ
namespace NQ
open PySem L2
section
variable {K : PySem.W.Frag} {b1 b2 : Bool}
end
section
variable {X : Cx} {K : PySem.W.Frag} {c : Cf} {sh : Nat → Sh} {Wx : WX} {st : Stmt} {rest : List Stmt} {e : Expr}
end
end NQ
namespace NQ
open PySem L2
/-! ### what the pure functions do, step by step -/
section
variable {F G : Sf} {f g h : Dl → Rs} {u v w : Qf} {a b : Qb} {t s : Dl → Rb} {δ : Dl} {i : Nat} {op op' : Op} {fs : List Qf} {os : List Opd} {x y : T} {ts : List T} {gp : Gf} {gs : Gfs} {its : Il}
theorem ap_set : sSet i f δ = match f δ with
  | none => none
  | some (.error e, δ') => some (.exc e, δ')
  | some (.ok t, δ') => some (.nx, δ'.set i (some t)) := (rfl)
theorem ap_setN : sSetN i f δ = match f δ with
  | none => none
  | some (.error e, δ') => some (.exc e, δ')
  | some (.ok t, δ') => if i < δ'.length then some (.nx, δ'.set i (some t)) else none := (rfl)
theorem ap_drop : sDrop f δ = match f δ with
  | none => none
  | some (.error e, δ') => some (.exc e, δ')
  | some (.ok _, δ') => some (.nx, δ') := (rfl)
theorem ap_ret : sRet f δ = match f δ with
  | none => none
  | some (.error e, δ') => some (.exc e, δ')
  | some (.ok t, δ') => some (.ret t, δ') := (rfl)
theorem ap_retV : sRetV i δ = match dAt δ i with
  | none => none
  | some t => some (.ret t, δ.set i none) := (rfl)
theorem ap_if : sIf t F G δ = match t δ with
  | none => none
  | some (.error e, δ') => some (.exc e, δ')
  | some (.ok true, δ') => F δ'
  | some (.ok false, δ') => G δ' := (rfl)
theorem ap_for : sFor its gp F δ = match its δ with
  | none => none
  | some (.error e, δ') => some (.exc e, δ')
  | some (.ok ts, δ') => forM ts gp F δ' := (rfl)
theorem ap_setIx : sSetIx i u f δ = match f δ with
  | none => none
  | some (.error e, δ') => some (.exc e, δ')
  | some (.ok w, δ') => match u δ' with
    | some (.int n) => match dAt δ' i with
      | some (.lst ts) => match setAt ts n w with
        | some ts' => some (.nx, δ'.set i (some (.lst ts')))
        | none => none
      | _ => none
    | _ => none := (rfl)
theorem ap_aug : sAug i op f δ = match dAt δ i with
  | some a => match f δ with
    | none => none
    | some (.error e, δ') => some (.exc e, δ')
    | some (.ok b, δ') => match op [a, b] with
      | some c => some (.nx, δ'.set i (some c))
      | none => none
  | none => none := (rfl)
theorem ap_asg : sAsg f gp δ = match f δ with
  | none => none
  | some (.error e, δ') => some (.exc e, δ')
  | some (.ok t, δ') => match gp t δ' with
    | some δ2 => some (.nx, δ2)
    | none => none := (rfl)
theorem ap_frz : sFrz i F δ = match dAt δ i with
  | none => none
  | some _ => match F δ with
    | none => none
    | some (fl, δ') => some (fl, δ'.set i none) := (rfl)
theorem ap_qE : qE u δ = match u δ with
  | none => none
  | some t => some (.ok t, δ) := (rfl)
theorem ap_opq : opq op fs δ = match evq fs δ with
  | none => none
  | some ts => op ts := (rfl)
theorem ap_opn : opn op os δ = match runs os δ with
  | none => none
  | some (.error e, δ') => some (.error e, δ')
  | some (.ok l, δ') => match res l δ' with
    | none => none
    | some ts => match op ts with
      | none => none
      | some c => some (.ok c, δ') := (rfl)
theorem ap_opnc : opnc op os δ = match runs os δ with
  | some (.ok l, δ') => match res l δ' with
    | none => none
    | some ts => match op ts with
      | none => none
      | some c => some (.ok c, δ')
  | _ => none := (rfl)
theorem ap_call {ps : List Sh} {Ff : List T → Fo} : fCall ps Ff os δ = match runs os δ with
  | none => none
  | some (.error e, δ') => some (.error e, δ')
  | some (.ok l, δ') => match res l δ' with
    | none => none
    | some ts => match Ff ts with
      | none => none
      | some (.ret t, ts') => if ts'.length = ps.length then some (.ok t, wb ps (skO os) ts' δ') else none
      | some (.exc e, ts') => if ts'.length = ps.length then some (.error e, wb ps (skO os) ts' δ') else none := (rfl)
theorem ap_app : fApp i f δ = match dAt δ i with
  | some (.lst _) => match f δ with
    | none => none
    | some (.error e, δ') => some (.error e, δ')
    | some (.ok u, δ') => match dAt δ' i with
      | some (.lst ts) => if ts.length < sizeLine then some (.ok .non, δ'.set i (some (.lst (ts ++ [u])))) else none
      | _ => none
  | _ => none := (rfl)
theorem ap_eV : eV i δ = dAt δ i := (rfl)
theorem ap_ifE : ifE t f g δ = match t δ with
  | none => none
  | some (.error e, δ') => some (.error e, δ')
  | some (.ok true, δ') => f δ'
  | some (.ok false, δ') => g δ' := (rfl)
theorem ap_ifQ : ifQ a u v δ = match a δ with
  | none => none
  | some true => u δ
  | some false => v δ := (rfl)
theorem ap_asB : asB u δ = match u δ with
  | some (.bl b) => some b
  | _ => none := (rfl)
theorem ap_asTru : asTru u δ = match u δ with
  | some t => truT t
  | none => none := (rfl)
theorem ap_asBE : asBE f δ = match f δ with
  | some (.ok (.bl b), δ') => some (.ok b, δ')
  | some (.error e, δ') => some (.error e, δ')
  | _ => none := (rfl)
theorem ap_asTruE : asTruE f δ = match f δ with
  | none => none
  | some (.error e, δ') => some (.error e, δ')
  | some (.ok t, δ') => match truT t with
    | some b => some (.ok b, δ')
    | none => none := (rfl)
theorem ap_qB : qB a δ = match a δ with
  | none => none
  | some b => some (.ok b, δ) := (rfl)
theorem ap_notQ : notQ a δ = match a δ with
  | some b => some (!b)
  | none => none := (rfl)
theorem ap_andQ : andQ a b δ = match a δ with
  | some true => b δ
  | some false => some false
  | none => none := (rfl)
theorem ap_orQ : orQ a b δ = match a δ with
  | some true => some true
  | some false => b δ
  | none => none := (rfl)
theorem ap_notE : notE t δ = match t δ with
  | none => none
  | some (.error e, δ') => some (.error e, δ')
  | some (.ok b, δ') => some (.ok (!b), δ') := (rfl)
theorem ap_andE : andE t s δ = match t δ with
  | none => none
  | some (.error e, δ') => some (.error e, δ')
  | some (.ok true, δ') => s δ'
  | some (.ok false, δ') => some (.ok false, δ') := (rfl)
theorem ap_orE : orE t s δ = match t δ with
  | none => none
  | some (.error e, δ') => some (.error e, δ')
  | some (.ok true, δ') => some (.ok true, δ')
  | some (.ok false, δ') => s δ' := (rfl)
theorem ap_andV : andV u v δ = match u δ with
  | none => none
  | some t => match truW t with
    | some true => v δ
    | some false => some t
    | none => none := (rfl)
theorem ap_orV : orV u v δ = match u δ with
  | none => none
  | some t => match truW t with
    | some true => some t
    | some false => v δ
    | none => none := (rfl)
theorem ap_andW : andW f g δ = match f δ with
  | none => none
  | some (.error e, δ') => some (.error e, δ')
  | some (.ok t, δ') => match truW t with
    | some true => g δ'
    | some false => some (.ok t, δ')
    | none => none := (rfl)
theorem ap_orW : orW f g δ = match f δ with
  | none => none
  | some (.error e, δ') => some (.error e, δ')
  | some (.ok t, δ') => match truW t with
    | some true => some (.ok t, δ')
    | some false => g δ'
    | none => none := (rfl)
theorem ap_chQ : chQ op op' u v w δ = match u δ, v δ with
  | some x, some y => match op [x, y] with
    | some (.bl true) => match w δ with
      | some z => op' [y, z]
      | none => none
    | some (.bl false) => some (.bl false)
    | _ => none
  | _, _ => none := (rfl)
theorem ap_gT : gT gs x δ = match seqT x with
  | some ts => gs ts δ
  | none => none := (rfl)
theorem ap_gCs : gCs gp gs (x :: ts) δ = match gp x δ with
  | some δ' => gs ts δ'
  | none => none := (rfl)
theorem ap_itE : itE f δ = match f δ with
  | none => none
  | some (.error e, δ') => some (.error e, δ')
  | some (.ok t, δ') => match itT t with
    | some ts => some (.ok ts, δ')
    | none => none := (rfl)
theorem ap_itR1 : itR1 f δ = match f δ with
  | some (.ok (.int j), δ') => if -(2 ^ 62) ≤ j ∧ j < 2 ^ 62 then some (.ok ((List.range j.toNat).map fun i => T.int (0 + (i : Nat))), δ') else none
  | some (.error e, δ') => some (.error e, δ')
  | _ => none := (rfl)
theorem ap_itR2 : itR2 f g δ = match f δ with
  | some (.ok (.int i), δ1) => match g δ1 with
    | some (.ok (.int j), δ') => if -(2 ^ 62) ≤ i ∧ i < 2 ^ 62 ∧ -(2 ^ 62) ≤ j ∧ j < 2 ^ 62 then some (.ok ((List.range (j - i).toNat).map fun n => T.int (i + (n : Nat))), δ') else none
    | some (.error e, δ') => some (.error e, δ')
    | _ => none
  | some (.error e, δ') => some (.error e, δ')
  | _ => none := (rfl)
theorem ap_itEn : itEn f δ = match f δ with
  | some (.ok (.lst ts), δ') => some (.ok (enT ts), δ')
  | some (.error e, δ') => some (.error e, δ')
  | _ => none := (rfl)
theorem ap_lcE {vs : List Nat} : lcE its gp t f vs δ = match its δ with
  | none => none
  | some (.error e, δ') => some (.error e, δ')
  | some (.ok ts, δ') => if ts.length < sizeLine then (match lcL gp t f vs ts (wipeD δ' vs) with
    | some (us, δ2) => some (.ok (.lst us), δ2)
    | none => none) else none := (rfl)
theorem ap_alt {f g : Op} : altT f g ts = match f ts with
  | some c => some c
  | none => g ts := (rfl)
theorem ap_fn {ps : List Sh} {m : Nat} {rs : Sh} : fnT ps m rs F ts = match F (ts.map some ++ List.replicate m none) with
  | some (.nx, δ) => if rs.nilOk then (match fin ps ts δ with | some l => some (.ret .non, l) | none => none) else none
  | some (.ret t, δ) => match fin ps ts δ with | some l => some (.ret t, l) | none => none
  | some (.exc e, δ) => match fin ps ts δ with | some l => some (.exc e, l) | none => none
  | _ => none := (rfl)
theorem d0 {r : Dl} {z : Option T} : dAt (z :: r) 0 = z := (rfl)
/-! ### a loop keeps what it keeps -/
end
end NQ
namespace NQ
open PySem L2
/-! ### what the operations do -/
section
variable {i j k n : Int} {a b s : Str} {x y z t u : T} {xs ys ts : List T} {ks : List Key} {c d : Bool} {f : Int → Int → Bool}
theorem o_adds : addR [.str a, .str b] = if a.length + b.length ≤ sizeLine then some (.str (a ++ b)) else none := (rfl)
theorem o_addAs (h : a.length + b.length ≤ sizeLine) : addA [.str a, .str b] = some (.str (a ++ b)) := by simp only [ap_alt, o_adds, if_pos h]
theorem o_addL : addL [.lst xs, .lst ys] = if xs.length + ys.length ≤ sizeLine then some (.lst (xs ++ ys)) else none := (rfl)
theorem o_addAl : addA [.lst xs, .lst ys] = if xs.length + ys.length ≤ sizeLine then some (.lst (xs ++ ys)) else none := (rfl)
theorem o_muli : mulR [.int i, .int j] = if (-(2 ^ 64) < i ∧ i < 2 ^ 64) ∨ (-(2 ^ 64) < j ∧ j < 2 ^ 64) ∨ i.natAbs.log2 + j.natAbs.log2 < 1000000 then some (.int (i * j)) else none := (rfl)
theorem o_muls : mulR [.str a, .int n] = if -(2 ^ 20) < n ∧ n < 2 ^ 20 ∧ a.length * n.toNat ≤ 1000000 then some (.str (Txt.mul a n)) else none := (rfl)
theorem o_mulL : mulL [.lst xs, .int n] = if -(2 ^ 63) ≤ n ∧ n < 2 ^ 63 ∧ xs.length * n.toNat ≤ sizeLine then some (.lst (List.replicate n.toNat xs).flatten) else none := (rfl)
theorem o_mulAi (h : (-(2 ^ 64) < i ∧ i < 2 ^ 64) ∨ (-(2 ^ 64) < j ∧ j < 2 ^ 64) ∨ i.natAbs.log2 + j.natAbs.log2 < 1000000) : mulA [.int i, .int j] = some (.int (i * j)) := by simp only [ap_alt, o_muli, if_pos h]
theorem o_mulAl : mulA [.lst xs, .int n] = if -(2 ^ 63) ≤ n ∧ n < 2 ^ 63 ∧ xs.length * n.toNat ≤ sizeLine then some (.lst (List.replicate n.toNat xs).flatten) else none := (rfl)
theorem o_modi : modT [.int i, .int j] = if 0 < j then some (.int (i % j)) else none := (rfl)
theorem o_divi : divT [.int i, .int j] = if 0 < j ∧ j.natAbs.log2 < 9000 then some (.int (i / j)) else none := (rfl)
theorem log_lt {n : Nat} (h : n < 1000000000000) : n.log2 < 9000 := by
  by_cases z : n = 0
  · rw [z]; decide
  · exact Nat.lt_trans ((Nat.log2_lt z).mpr (show n < 2 ^ 40 by omega)) (by decide)
theorem o_divs (h0 : 0 < j) (h1 : j < 1000000000000) : divT [.int i, .int j] = some (.int (i / j)) := by
  rw [o_divi, if_pos ⟨h0, log_lt (by omega)⟩]
theorem o_powi : powT [.int i, .int j] = if 0 ≤ j ∧ j ≤ 1000000 ∧ i.natAbs < 2 ^ 64 then some (.int (i ^ j.toNat)) else none := (rfl)
theorem o_pows (h0 : 0 ≤ j) (h1 : j ≤ 1000000) (h2 : -18446744073709551616 < i) (h3 : i < 18446744073709551616) : powT [.int i, .int j] = some (.int (i ^ j.toNat)) := by
  rw [o_powi, if_pos ⟨h0, h1, by omega⟩]
theorem sz_eq : sizeLine = 16777216 := (rfl)
theorem o_eq : eqT [x, y] = match eqB x y with | some b => some (.bl b) | none => none := (rfl)
theorem o_ne : neT [x, y] = match eqB x y with | some b => some (.bl (!b)) | none => none := (rfl)
theorem o_len_s : lenT [.str a] = if a.length ≤ sizeLine then some (.int a.length) else none := (rfl)
theorem o_list_s : listA [.str a] = if a.length ≤ sizeLine then some (.lst ((NL.sgn a).map T.str)) else none := (rfl)
theorem o_lst : lstT ts = if ts.length ≤ sizeLine then some (.lst ts) else none := (rfl)
theorem o_tup : tupT ts = if ts.length ≤ sizeLine then some (.tup ts) else none := (rfl)
theorem o_disp : dispT ks ts = if ks.Nodup ∧ ks.length = ts.length ∧ ks.length ≤ 15 then some (.dic ks ts) else none := (rfl)
theorem o_split : splitT [.str a, .str b] = if (b.length == 0) = false ∧ a.length + 2 ≤ sizeLine then some (.lst ((Txt.split a b).map T.str)) else none := (rfl)
theorem o_words : wordsT [.str a] = if a.length + 2 ≤ sizeLine then some (.lst ((Txt.words a).map T.str)) else none := (rfl)
theorem o_strip : stripT [.str a] = if a.length ≤ sizeLine then some (.str (Txt.strip a)) else none := (rfl)
theorem o_join {l : List Str} : joinT [.str a, .lst (l.map T.str)] = if (l.map (·.length)).sum + l.length * a.length ≤ 16777216 then some (.str (Txt.join a l)) else none := by
  unfold joinT
  simp only [seqT, strs_map]
theorem o_slS1 : slS true false [.str a, .int i] = if a.length ≤ sizeLine then some (.str (cutS a (some i) none)) else none := (rfl)
theorem o_slS2 : slS false true [.str a, .int i] = if a.length ≤ sizeLine then some (.str (cutS a none (some i))) else none := (rfl)
theorem o_slS3 : slS true true [.str a, .int i, .int j] = if a.length ≤ sizeLine then some (.str (cutS a (some i) (some j))) else none := (rfl)
theorem o_ixR_l : ixRA [.lst xs, .int i] = match atI xs i with
    | some t => if t.isS then some t else none
    | none => none := by
  simp only [ap_alt, ixR, seqT]
  cases atI xs i with
  | none => rfl
  | some t => cases h : t.isS <;> simp [h, dgetR, dlook]
theorem o_ixR_t : ixRA [.tup xs, .int i] = match atI xs i with
    | some t => if t.isS then some t else none
    | none => none := by
  simp only [ap_alt, ixR, seqT]
  cases atI xs i with
  | none => rfl
  | some t => cases h : t.isS <;> simp [h, dgetR, dlook]
theorem o_ix_l : ixA [.lst xs, .int i] = atI xs i := by
  simp only [ap_alt, o_ixR_l, ixR, seqT, ixD, dgetR, dgetD, dlook]
  cases atI xs i with
  | none => rfl
  | some t => cases h : t.isS <;> simp [h]
theorem o_ix_t : ixA [.tup xs, .int i] = atI xs i := by
  simp only [ap_alt, o_ixR_t, ixR, seqT, ixD, dgetR, dgetD, dlook]
  cases atI xs i with
  | none => rfl
  | some t => cases h : t.isS <;> simp [h]
theorem o_ix_s : ixA [.str a, .int i] = if a.length ≤ sizeLine then (match atI a.cps.toList i with | some c => some (.str ⟨#[c]⟩) | none => none) else none := by
  simp only [ap_alt, ixR, ixD, dgetR, dgetD, dlook]
  by_cases h : a.length ≤ sizeLine
  · simp only [if_pos h]
    cases atI a.cps.toList i <;> rfl
  · simp only [if_neg h]
theorem o_ix_d {k : Key} (h : x.key = some k) : ixA [.dic ks xs, x] = lookT ks xs k := by
  have e1 : ixR [.dic ks xs, x] = none := by cases x <;> rfl
  have e2 : ixD [.dic ks xs, x] = none := by cases x <;> rfl
  simp only [ap_alt, e1, e2, dgetR, dgetD, dlook, h]
  cases lookT ks xs k with
  | none => rfl
  | some t => cases h : t.isS <;> simp [h]
theorem o_in (h : memB x y = some c) : inA [x, y] = some (.bl c) := by
  simp only [ap_alt, inT, h]
theorem o_nin (h : memB x y = some c) : ninA [x, y] = some (.bl (!c)) := by
  simp only [ap_alt, ninT, h]
theorem o_isi {m q : String} (h : x.tyn = some m) (h2 : subB m q = some c) : isiT [x, .ty q] = some (.bl c) := by
  simp only [isiT, h, h2]
theorem tru_b : truT (.bl c) = some c := (rfl)
theorem tru_i : truT (.int i) = some (i != 0) := (rfl)
theorem tru_n : truT .non = some false := (rfl)
theorem tru_s : truT (.str a) = if a.length ≤ sizeLine then some ((a.length : Int) != 0) else none := (rfl)
theorem ixN_nat {m n : Nat} (h : n < m) : ixN m (n : Int) = some n := by
  unfold ixN
  rw [if_pos (by omega), if_pos (by omega)]
  rfl
theorem atI_nat {α : Type} {xs : List α} {n : Nat} (h : n < xs.length) : atI xs (n : Int) = xs[n]? := by
  unfold atI
  rw [ixN_nat h]
  rfl
theorem atI0 {α : Type} {x : α} {r : List α} : atI (x :: r) 0 = some x := atI_nat (n := 0) (by simp)
theorem atI1 {α : Type} {x y : α} {r : List α} : atI (x :: y :: r) 1 = some y := atI_nat (n := 1) (by simp)
end
end NQ
namespace NQ
open PySem L2
/-! ### the law's own call -/
end NQ
namespace NQ
open PySem L2
/-! ### one-step equations that the kernel need not unfold -/
section
variable {δ r : Dl} {f : Dl → Rs} {os : List Opd} {i j : Nat} {t u : T} {ts us : List T} {q : Qf} {qs : List Qf} {l : List (Nat ⊕ T)} {s : Sh} {ss : List Sh} {k : List (Option Nat)} {x y : Option T}
theorem rnV : runs (.var i :: os) δ = match dAt δ i with
    | none => none
    | some _ => match runs os δ with
      | none => none
      | some (.error e, δ') => some (.error e, δ')
      | some (.ok l, δ') => some (.ok (.inl i :: l), δ') := (rfl)
theorem rnE : runs (.val f :: os) δ = match f δ with
    | none => none
    | some (.error e, δ') => some (.error e, δ')
    | some (.ok t, δ1) => match runs os δ1 with
      | none => none
      | some (.error e, δ') => some (.error e, δ')
      | some (.ok l, δ') => some (.ok (.inr t :: l), δ') := (rfl)
theorem evS : evq (q :: qs) δ = match q δ with
    | none => none
    | some t => match evq qs δ with
      | none => none
      | some ts => some (t :: ts) := (rfl)
theorem rsV : res (.inl i :: l) δ = match dAt δ i, res l δ with
    | some t, some ts => some (t :: ts)
    | _, _ => none := (rfl)
theorem rsE : res (.inr t :: l) δ = match res l δ with
    | some ts => some (t :: ts)
    | none => none := (rfl)
theorem sk0 : skO [] = [] := (rfl)
theorem skV : skO (.var i :: os) = some i :: skO os := (rfl)
theorem skE : skO (.val f :: os) = none :: skO os := (rfl)
theorem wb0 : wb [] k us δ = δ := by cases k <;> rfl
theorem wbV : wb (s :: ss) (some i :: k) (t :: ts) δ = wb ss k ts (if s.isO then δ.set i (some t) else δ) := (rfl)
theorem wbE : wb (s :: ss) (none :: k) (t :: ts) δ = wb ss k ts δ := by cases s <;> rfl
theorem fin0 : fin [] [] δ = some [] := by cases δ <;> rfl
theorem finS : fin (s :: ss) (t :: ts) (x :: δ) = match fin ss ts δ with
    | none => none
    | some l => if s.isO then (match x with | some u => some (u :: l) | none => none) else some (t :: l) := (rfl)
theorem isO_fz : Sh.isO .fz = false := (rfl)
theorem isO_vw : Sh.isO .vw = false := (rfl)
theorem isO_all : Sh.isO (.all s) = true := (rfl)
theorem isO_opt : Sh.isO (.opt s) = true := (rfl)
theorem isO_flds {d : List (Str × Sh)} : Sh.isO (.flds d) = true := (rfl)
theorem isO_row : Sh.isO (.row ss) = true := (rfl)
theorem wp0 : wipeD δ [] = δ := (rfl)
theorem wpS {vs : List Nat} : wipeD δ (i :: vs) = (wipeD δ vs).set i none := (rfl)
theorem st0 {α : Type} {a b : α} {l : List α} : (a :: l).set 0 b = b :: l := (rfl)
theorem stS {α : Type} {a b : α} {l : List α} {n : Nat} : (a :: l).set (n + 1) b = a :: l.set n b := (rfl)
theorem mp0 {α β : Type} {g : α → β} : [].map g = [] := (rfl)
theorem mpS {α β : Type} {g : α → β} {a : α} {l : List α} : (a :: l).map g = g a :: l.map g := (rfl)
theorem ap0 {α : Type} {l : List α} : [] ++ l = l := (rfl)
theorem apS {α : Type} {a : α} {l m : List α} : a :: l ++ m = a :: (l ++ m) := (rfl)
theorem rp0 {α : Type} {a : α} : List.replicate 0 a = [] := (rfl)
theorem rpS {α : Type} {a : α} {n : Nat} : List.replicate (n + 1) a = a :: List.replicate n a := (rfl)
end
end NQ
namespace NQ
open PySem L2
/-! ### raise -/
def sRaise (c fld : Str) (f : Dl → Rs) : Sf := fun δ => match f δ with
  | none => none
  | some (.error e, δ') => some (.exc e, δ')
  | some (.ok t, δ') => some (.exc ⟨c, fld, t⟩, δ')
section
variable {X : Cx} {K : PySem.W.Frag} {c : Cf} {Wx : WX} {e : Expr} {f : Dl → Rs} {x fld : Str} {k : Nat} {p pos pos2 : Pos}
end
/-! ### match over texts -/
/-- the cases, by the text -/
abbrev Mf := Str → Sf
def mNil : Mf := fun _ => sNext
def mCs (ks : List Str) (F : Sf) (R : Mf) : Mf := fun a => if a ∈ ks then F else R a
def mCg (ks : List Str) (g : Dl → Rb) (F : Sf) (R : Mf) : Mf := fun a => if a ∈ ks then sIf g F (R a) else R a
def mAny (F : Sf) : Mf := fun _ => F
def sMatch (f : Dl → Rs) (M : Mf) : Sf := fun δ => match f δ with
  | none => none
  | some (.error e, δ') => some (.exc e, δ')
  | some (.ok (.str a), δ') => M a δ'
  | some (.ok _, _) => none
section
variable {X : Cx} {K : PySem.W.Frag} {c : Cf} {Wx : WX} {e : Expr} {f : Dl → Rs} {F : Sf} {M : Mf} {p : Pattern} {ks : List Str} {b : List Stmt} {r : List MatchCase} {pos : Pos}
end
end NQ
namespace NQ
open PySem L2
/-! ### try: body, except x as n: suite; except x: suite -/
def Cf.xcAt (c : Cf) (i : Nat) (a d : Addr) (cl fl : Str) : Cf := { c with sh := fun j => if j = i then .xc a d cl fl else c.sh j }
/-- which classes of exceptions are of the class c; those that are have the field fl -/
def ExT (K : PySem.W.Frag) (c : Value) (fl : Str) : List (Str × Bool) → Prop
  | [] => True
  | (x, b) :: r => PySem.W.exmOne K (.ref (He.ga K x)) c = some b ∧ (b = true → XfC K (He.ga K x) ∧ PySem.W.findIn K (.ref (He.ga K x)) fl = some none) ∧ ExT K c fl r
theorem ExT.at {K : PySem.W.Frag} {c : Value} {fl : Str} : ∀ {l : List (Str × Bool)} {x : Str} {b : Bool}, ExT K c fl l → l.lookup x = some b → PySem.W.exmOne K (.ref (He.ga K x)) c = some b ∧ (b = true → XfC K (He.ga K x) ∧ PySem.W.findIn K (.ref (He.ga K x)) fl = some none)
  | [], _, _, _, h => by simp at h
  | (y, d) :: r, x, b, ⟨h1, h2, h3⟩, e => by
    rw [List.lookup_cons] at e
    split at e
    · rename_i q
      cases e
      rw [eq_of_beq q]
      exact ⟨h1, h2⟩
    · exact ExT.at h3 e
def sTryAs (m : List (Str × Bool)) (fl : Str) (i : Nat) (F : Sf) (G : Xn → Sf) : Sf := fun δ => match F δ with
  | some (.exc e, δ') => match m.lookup e.cls with
    | some true => if e.fld = fl ∧ i < δ'.length then (match G e (δ'.set i (some e.val)) with
      | some (.exc _, _) => none
      | some (fl, δ2) => some (fl, δ2.set i none)
      | none => none) else none
    | some false => some (.exc e, δ')
    | none => none
  | r => r
/-- the same without the exception's name -/
def ExO (K : PySem.W.Frag) (c : Value) : List (Str × Bool) → Prop
  | [] => True
  | (x, b) :: r => PySem.W.exmOne K (.ref (He.ga K x)) c = some b ∧ ExO K c r
theorem ExO.at {K : PySem.W.Frag} {c : Value} : ∀ {l : List (Str × Bool)} {x : Str} {b : Bool}, ExO K c l → l.lookup x = some b → PySem.W.exmOne K (.ref (He.ga K x)) c = some b
  | [], _, _, _, h => by simp at h
  | (y, d) :: r, x, b, ⟨h1, h2⟩, e => by
    rw [List.lookup_cons] at e
    split at e
    · rename_i q
      cases e
      rw [eq_of_beq q]
      exact h1
    · exact ExO.at h2 e
def sTry (m : List (Str × Bool)) (F : Sf) (G : Sf) : Sf := fun δ => match F δ with
  | some (.exc e, δ') => match m.lookup e.cls with
    | some true => (match G δ' with
      | some (.exc _, _) => none
      | r => r)
    | some false => some (.exc e, δ')
    | none => none
  | r => r
section
variable {X : Cx} {K : PySem.W.Frag} {c : Cf} {Wx : WX} {F : Sf} {G : Xn → Sf} {m : List (Str × Bool)} {i : Nat} {x n : Str} {cv : Value} {body suite : List Stmt} {b₀ : Stmt} {np pos pos' : Pos}
/-! ### in the suite: e.f, isinstance(e, C) -/
variable {sh : Nat → Sh} {a d : Addr} {oe : Obj} {pn : List (Addr × Obj)} {cl fl : Str} {o : Expr}
end
end NQ
namespace NQ
open PySem L2
/-! ### walking through the pure functions: what comes of them, wished for -/
/-- a state that is to be written out -/
def Nm (X : Dl) (P : Dl → Prop) : Prop := P X
theorem nm_eq {X Y : Dl} {P : Dl → Prop} (e : X = Y) (z : P Y) : Nm X P := by subst e; exact z
def Is {α : Type} (t : T) (mk : α → T) (P : α → Prop) : Prop := ∃ k, t = mk k ∧ P k
theorem is_mk {α : Type} {k : α} {mk : α → T} {P : α → Prop} (z : P k) : Is (mk k) mk P := ⟨k, rfl, z⟩
def At (δ : Dl) (i : Nat) (P : T → Prop) : Prop := ∃ t, dAt δ i = some t ∧ P t
theorem at_mk {δ : Dl} {i : Nat} {t : T} {P : T → Prop} (e : dAt δ i = some t) (z : P t) : At δ i P := ⟨t, e, z⟩
def So {α : Type} (o : Option α) (P : α → Prop) : Prop := ∃ t, o = some t ∧ P t
theorem so_mk {α : Type} {o : Option α} {t : α} {P : α → Prop} (e : o = some t) (z : P t) : So o P := ⟨t, e, z⟩
def S2 {α β : Type} (o : Option (α × β)) (P : α → β → Prop) : Prop := ∃ t u, o = some (t, u) ∧ P t u
theorem s2_mk {α β : Type} {o : Option (α × β)} {t : α} {u : β} {P : α → β → Prop} (e : o = some (t, u)) (z : P t u) : S2 o P := ⟨t, u, e, z⟩
def Sd (c P : Prop) : Prop := c ∧ P
theorem sd_mk {c P : Prop} (h : c) (z : P) : Sd c P := ⟨h, z⟩
def Fn (ps : List Sh) (ts : List T) (δ : Dl) (P : List T → Prop) : Prop := ∃ l, fin ps ts δ = some l ∧ P l
theorem fn_mk {ps : List Sh} {ts : List T} {δ : Dl} {l : List T} {P : List T → Prop} (e : fin ps ts δ = some l) (z : P l) : Fn ps ts δ P := ⟨l, e, z⟩
def Ws (r : Ss) (N B C : Dl → Prop) (R : T → Dl → Prop) (E : Xn → Dl → Prop) : Prop := match r with
  | none => False
  | some (.nx, δ) => N δ
  | some (.brk, δ) => B δ
  | some (.cont, δ) => C δ
  | some (.ret t, δ) => R t δ
  | some (.exc e, δ) => E e δ
def We (r : Rs) (Q : T → Dl → Prop) (E : Xn → Dl → Prop) : Prop := match r with
  | none => False
  | some (.ok t, δ) => Q t δ
  | some (.error e, δ) => E e δ
def Wq (r : Option T) (Q : T → Prop) : Prop := match r with
  | none => False
  | some t => Q t
def Wb (r : Rb) (Q : Bool → Dl → Prop) (E : Xn → Dl → Prop) : Prop := match r with
  | none => False
  | some (.ok t, δ) => Q t δ
  | some (.error e, δ) => E e δ
def Wt (r : Option Bool) (Q : Bool → Prop) : Prop := match r with
  | none => False
  | some t => Q t
def Wl (r : Option (List T)) (Q : List T → Prop) : Prop := match r with
  | none => False
  | some t => Q t
def Wa (os : List Opd) (δ : Dl) (Q : List T → Dl → Prop) (E : Xn → Dl → Prop) : Prop := match runs os δ with
  | none => False
  | some (.error e, δ') => E e δ'
  | some (.ok l, δ') => match res l δ' with
    | none => False
    | some ts => Q ts δ'
def Wi (r : Option (Except Xn (List T) × Dl)) (Q : List T → Dl → Prop) (E : Xn → Dl → Prop) : Prop := match r with
  | none => False
  | some (.ok t, δ) => Q t δ
  | some (.error e, δ) => E e δ
def Wd (r : Option Dl) (Q : Dl → Prop) : Prop := match r with
  | none => False
  | some t => Q t
def Wf (r : Fo) (R : T → List T → Prop) (E : Xn → List T → Prop) : Prop := match r with
  | none => False
  | some (.ret t, l) => R t l
  | some (.exc e, l) => E e l
theorem wf_eq {r : Fo} {t : T} {l : List T} {R : T → List T → Prop} {E : Xn → List T → Prop} (e : r = some (.ret t, l)) (h : R t l) : Wf r R E := by rw [e]; exact h
theorem wf_eqX {r : Fo} {x : Xn} {l : List T} {R : T → List T → Prop} {E : Xn → List T → Prop} (e : r = some (.exc x, l)) (h : E x l) : Wf r R E := by rw [e]; exact h
theorem wf_or {r : Fo} {P : T → List T → Prop} {P2 : Xn → List T → Prop} (h : Wf r P P2) : (∃ t l, r = some (.ret t, l) ∧ P t l) ∨ ∃ e l, r = some (.exc e, l) ∧ P2 e l := by
  unfold Wf at h
  split at h
  · exact h.elim
  · exact .inl ⟨_, _, rfl, h⟩
  · exact .inr ⟨_, _, rfl, h⟩
theorem we_c {r : Rs} {Q : T → Dl → Prop} {E : Xn → Dl → Prop} (h : We r Q E) : (∃ t δ, r = some (.ok t, δ) ∧ Q t δ) ∨ ∃ e δ, r = some (.error e, δ) ∧ E e δ := by
  unfold We at h
  split at h
  · exact h.elim
  · exact .inl ⟨_, _, rfl, h⟩
  · exact .inr ⟨_, _, rfl, h⟩
theorem wb_c {r : Rb} {Q : Bool → Dl → Prop} {E : Xn → Dl → Prop} (h : Wb r Q E) : (∃ t δ, r = some (.ok t, δ) ∧ Q t δ) ∨ ∃ e δ, r = some (.error e, δ) ∧ E e δ := by
  unfold Wb at h
  split at h
  · exact h.elim
  · exact .inl ⟨_, _, rfl, h⟩
  · exact .inr ⟨_, _, rfl, h⟩
theorem wi_c {r : Option (Except Xn (List T) × Dl)} {Q : List T → Dl → Prop} {E : Xn → Dl → Prop} (h : Wi r Q E) : (∃ t δ, r = some (.ok t, δ) ∧ Q t δ) ∨ ∃ e δ, r = some (.error e, δ) ∧ E e δ := by
  unfold Wi at h
  split at h
  · exact h.elim
  · exact .inl ⟨_, _, rfl, h⟩
  · exact .inr ⟨_, _, rfl, h⟩
theorem wa_c {os : List Opd} {δ : Dl} {Q : List T → Dl → Prop} {E : Xn → Dl → Prop} (h : Wa os δ Q E) : (∃ l δ' ts, runs os δ = some (.ok l, δ') ∧ res l δ' = some ts ∧ Q ts δ') ∨ ∃ e δ', runs os δ = some (.error e, δ') ∧ E e δ' := by
  unfold Wa at h
  split at h
  · exact h.elim
  · rename_i e; exact .inr ⟨_, _, e, h⟩
  · rename_i e
    split at h
    · exact h.elim
    · rename_i e2; exact .inl ⟨_, _, _, e, e2, h⟩
theorem wt_ex {r : Option Bool} {P : Bool → Prop} (h : Wt r P) : ∃ t, r = some t ∧ P t := by
  cases r with
  | none => exact h.elim
  | some t => exact ⟨t, rfl, h⟩
theorem wl_ex {r : Option (List T)} {P : List T → Prop} (h : Wl r P) : ∃ t, r = some t ∧ P t := by
  cases r with
  | none => exact h.elim
  | some t => exact ⟨t, rfl, h⟩
theorem wd_ex {r : Option Dl} {P : Dl → Prop} (h : Wd r P) : ∃ t, r = some t ∧ P t := by
  cases r with
  | none => exact h.elim
  | some t => exact ⟨t, rfl, h⟩
theorem ws_c {r : Ss} {N B C : Dl → Prop} {R : T → Dl → Prop} {E : Xn → Dl → Prop} (h : Ws r N B C R E) : ∃ f δ, r = some (f, δ) ∧ Ws (some (f, δ)) N B C R E := by
  cases r with
  | none => exact h.elim
  | some p => exact ⟨p.1, p.2, rfl, h⟩
theorem wq_eq {r : Option T} {t : T} {R : T → Prop} (e : r = some t) (h : R t) : Wq r R := by rw [e]; exact h
theorem wq_ex {r : Option T} {P : T → Prop} (h : Wq r P) : ∃ t, r = some t ∧ P t := by
  cases r with
  | none => exact h.elim
  | some t => exact ⟨t, rfl, h⟩
section
variable {F G : Sf} {f g h : Dl → Rs} {u v w : Qf} {a b : Qb} {t s : Dl → Rb} {δ δ2 : Dl} {i : Nat} {op op' : Op} {fs : List Qf} {os : List Opd} {x y : T} {ts : List T} {gp : Gf} {gs : Gfs} {its : Il}
variable {N B C : Dl → Prop} {R : T → Dl → Prop} {E : Xn → Dl → Prop} {Q : T → Dl → Prop} {q : T → Prop} {QB : Bool → Dl → Prop} {qb : Bool → Prop} {QL : List T → Dl → Prop} {ql : List T → Prop} {QD : Dl → Prop}
/-! statements -/
theorem ws_seq (z : Ws (F δ) (fun δ' => Ws (G δ') N B C R E) B C R E) : Ws (sSeq F G δ) N B C R E := by
  unfold sSeq
  cases e : F δ with
  | none => rw [e] at z; exact z.elim
  | some p =>
    obtain ⟨fl, δ'⟩ := p
    rw [e] at z
    cases fl <;> exact z
theorem ws_next (z : N δ) : Ws (sNext δ) N B C R E := z
theorem ws_brk (z : B δ) : Ws (sBrk δ) N B C R E := z
theorem ws_cont (z : C δ) : Ws (sCont δ) N B C R E := z
theorem ws_set (z : We (f δ) (fun t δ' => Nm (δ'.set i (some t)) N) E) : Ws (sSet i f δ) N B C R E := by
  rw [ap_set]
  rcases we_c z with ⟨t0, d0, e0, z⟩ | ⟨t0, d0, e0, z⟩ <;> simp only [e0]
  · exact z
  · exact z
theorem ws_setN (z : We (f δ) (fun t δ' => Sd (i < δ'.length) (Nm (δ'.set i (some t)) N)) E) : Ws (sSetN i f δ) N B C R E := by
  rw [ap_setN]
  rcases we_c z with ⟨t0, d0, e0, z⟩ | ⟨t0, d0, e0, z⟩ <;> simp only [e0]
  · simp only [z.1, if_true]; exact z.2
  · exact z
theorem ws_drop (z : We (f δ) (fun t δ' => N δ') E) : Ws (sDrop f δ) N B C R E := by
  rw [ap_drop]
  rcases we_c z with ⟨t0, d0, e0, z⟩ | ⟨t0, d0, e0, z⟩ <;> simp only [e0]
  · exact z
  · exact z
theorem ws_ret (z : We (f δ) (fun t δ' => R t δ') E) : Ws (sRet f δ) N B C R E := by
  rw [ap_ret]
  rcases we_c z with ⟨t0, d0, e0, z⟩ | ⟨t0, d0, e0, z⟩ <;> simp only [e0]
  · exact z
  · exact z
theorem ws_retV (e : dAt δ i = some x) (z : Nm (δ.set i none) (R x)) : Ws (sRetV i δ) N B C R E := by
  rw [ap_retV, e]; exact z
theorem ws_retN (z : R .non δ) : Ws (sRetN δ) N B C R E := z
theorem ws_if (z : Wb (t δ) (fun c δ' => if c = true then Ws (F δ') N B C R E else Ws (G δ') N B C R E) E) : Ws (sIf t F G δ) N B C R E := by
  rw [ap_if]
  rcases wb_c z with ⟨t0, d0, e0, z⟩ | ⟨t0, d0, e0, z⟩ <;> simp only [e0]
  · cases t0 <;> exact z
  · exact z
theorem ws_for (z : Wi (its δ) (fun ts δ' => Ws (forM ts gp F δ') N B C R E) E) : Ws (sFor its gp F δ) N B C R E := by
  rw [ap_for]
  rcases wi_c z with ⟨t0, d0, e0, z⟩ | ⟨t0, d0, e0, z⟩ <;> simp only [e0]
  · exact z
  · exact z
theorem ws_setIx (z : We (f δ) (fun w δ' => Wq (u δ') fun k => Is k T.int fun n => At δ' i fun x => Is x T.lst fun us => So (setAt us n w) fun us' => Nm (δ'.set i (some (.lst us'))) N) E) : Ws (sSetIx i u f δ) N B C R E := by
  rw [ap_setIx]
  rcases we_c z with ⟨t0, d0, e0, z⟩ | ⟨t0, d0, e0, z⟩ <;> simp only [e0]
  · obtain ⟨k, e1, n, rfl, x, e2, us, rfl, us', e3, z⟩ := wq_ex z
    simp only [e1, e2, e3]; exact z
  · exact z
theorem ws_aug (e : dAt δ i = some x) (z : We (f δ) (fun y δ' => Wq (op [x, y]) fun c => Nm (δ'.set i (some c)) N) E) : Ws (sAug i op f δ) N B C R E := by
  rw [ap_aug, e]
  rcases we_c z with ⟨t0, d0, e0, z⟩ | ⟨t0, d0, e0, z⟩ <;> simp only [e0]
  · obtain ⟨c, e1, z⟩ := wq_ex z
    simp only [e1]; exact z
  · exact z
theorem ws_asg (z : We (f δ) (fun t δ' => Wd (gp t δ') N) E) : Ws (sAsg f gp δ) N B C R E := by
  rw [ap_asg]
  rcases we_c z with ⟨t0, d0, e0, z⟩ | ⟨t0, d0, e0, z⟩ <;> simp only [e0]
  ·
    obtain ⟨c0, e0, z⟩ := wd_ex z
    simp only [e0]; exact z
  · exact z
theorem ws_frz (e : dAt δ i = some x) (z : Ws (F δ) (fun δ' => Nm (δ'.set i none) N) (fun δ' => Nm (δ'.set i none) B) (fun δ' => Nm (δ'.set i none) C) (fun t δ' => Nm (δ'.set i none) (R t)) (fun x δ' => Nm (δ'.set i none) (E x))) : Ws (sFrz i F δ) N B C R E := by
  unfold Nm at z
  try dsimp only at z
  rw [ap_frz, e]
  unfold Ws at z
  split at z
  · exact z.elim
  · rename_i e; simp only [e]; exact z
  · rename_i e; simp only [e]; exact z
  · rename_i e; simp only [e]; exact z
  · rename_i e; simp only [e]; exact z
  · rename_i e; simp only [e]; exact z
theorem ws_raise {c fl : Str} (z : We (f δ) (fun t δ' => E ⟨c, fl, t⟩ δ') E) : Ws (sRaise c fl f δ) N B C R E := by
  unfold sRaise
  rcases we_c z with ⟨t0, d0, e0, z⟩ | ⟨t0, d0, e0, z⟩ <;> simp only [e0]
  · exact z
  · exact z
theorem ws_match {M : Mf} (z : We (f δ) (fun t δ' => Is t T.str fun k => Ws (M k δ') N B C R E) E) : Ws (sMatch f M δ) N B C R E := by
  unfold sMatch
  rcases we_c z with ⟨t0, d0, e0, z⟩ | ⟨t0, d0, e0, z⟩ <;> simp only [e0]
  · obtain ⟨k, rfl, z⟩ := z; exact z
  · exact z
theorem ws_mNil {k : Str} (z : N δ) : Ws (mNil k δ) N B C R E := z
theorem ws_mAny {k : Str} (z : Ws (F δ) N B C R E) : Ws (mAny F k δ) N B C R E := z
theorem ws_mCs {k : Str} {ks : List Str} {M : Mf} (z : if decide (k ∈ ks) = true then Ws (F δ) N B C R E else Ws (M k δ) N B C R E) : Ws (mCs ks F M k δ) N B C R E := by
  unfold mCs
  by_cases h : k ∈ ks
  · rw [if_pos h]; rw [decide_eq_true h, if_pos rfl] at z; exact z
  · rw [if_neg h]; rw [decide_eq_false h, if_neg Bool.false_ne_true] at z; exact z
theorem ws_mCg {k : Str} {ks : List Str} {M : Mf} (z : if decide (k ∈ ks) = true then Ws (sIf t F (M k) δ) N B C R E else Ws (M k δ) N B C R E) : Ws (mCg ks t F M k δ) N B C R E := by
  unfold mCg
  by_cases h : k ∈ ks
  · rw [if_pos h]; rw [decide_eq_true h, if_pos rfl] at z; exact z
  · rw [if_neg h]; rw [decide_eq_false h, if_neg Bool.false_ne_true] at z; exact z
theorem ws_tryAs {m : List (Str × Bool)} {fl : Str} {H : Xn → Sf} (z : Ws (F δ) N B C R fun e δ' => So (m.lookup e.cls) fun b => if b = true then Sd (e.fld = fl ∧ i < δ'.length) (Nm (δ'.set i (some e.val)) fun δ2 => Ws (H e δ2) (fun δ2 => Nm (δ2.set i none) N) (fun δ2 => Nm (δ2.set i none) B) (fun δ2 => Nm (δ2.set i none) C) (fun t δ2 => Nm (δ2.set i none) (R t)) fun _ _ => False) else E e δ') : Ws (sTryAs m fl i F H δ) N B C R E := by
  unfold sTryAs
  cases e : F δ with
  | none => rw [e] at z; exact z.elim
  | some p =>
    obtain ⟨fl, δ'⟩ := p
    rw [e] at z
    cases fl with
    | exc er =>
      obtain ⟨b, h1, z⟩ := z
      cases b with
      | true =>
        obtain ⟨h2, z⟩ := z
        simp only [h1, h2, if_true]
        unfold Nm at z
        try dsimp only at z
        cases e2 : H er (δ'.set i (some er.val)) with
        | none => rw [e2] at z; exact z.elim
        | some p =>
          obtain ⟨fl, δ2⟩ := p
          rw [e2] at z
          cases fl <;> first | exact z | exact z.elim
      | false => simp only [h1]; exact z
    | nx => exact z
    | brk => exact z
    | cont => exact z
    | ret _ => exact z
theorem ws_try {m : List (Str × Bool)} {H : Sf} (z : Ws (F δ) N B C R fun e δ' => So (m.lookup e.cls) fun b => if b = true then Ws (H δ') N B C R fun _ _ => False else E e δ') : Ws (sTry m F H δ) N B C R E := by
  unfold sTry
  cases e : F δ with
  | none => rw [e] at z; exact z.elim
  | some p =>
    obtain ⟨fl, δ'⟩ := p
    rw [e] at z
    cases fl with
    | exc er =>
      obtain ⟨b, h1, z⟩ := z
      cases b with
      | true =>
        simp only [h1]
        have z : Ws (H δ') N B C R fun _ _ => False := z
        cases e2 : H δ' with
        | none => rw [e2] at z; exact z.elim
        | some p =>
          obtain ⟨fl, δ2⟩ := p
          rw [e2] at z
          cases fl <;> first | exact z | exact z.elim
      | false => simp only [h1]; exact z
    | nx => exact z
    | brk => exact z
    | cont => exact z
    | ret _ => exact z
/-! loops -/
/-! expressions -/
theorem we_qE (z : Wq (u δ) fun t => Q t δ) : We (qE u δ) Q E := by
  rw [ap_qE]
  obtain ⟨c0, e0, z⟩ := wq_ex z
  simp only [e0]
  exact z
theorem we_opn (z : Wa os δ (fun ts δ' => Wq (op ts) fun c => Q c δ') E) : We (opn op os δ) Q E := by
  rw [ap_opn]
  rcases wa_c z with ⟨l0, d0, ts0, e1, e2, z⟩ | ⟨t0, d0, e1, z⟩ <;> simp only [e1]
  rotate_left
  · exact z
  · simp only [e2]
    obtain ⟨c, e3, z⟩ := wq_ex z
    simp only [e3]; exact z
theorem we_opnc (z : Wa os δ (fun ts δ' => Wq (op ts) fun c => Q c δ') fun _ _ => False) : We (opnc op os δ) Q E := by
  rw [ap_opnc]
  rcases wa_c z with ⟨l0, d0, ts0, e1, e2, z⟩ | ⟨t0, d0, e1, z⟩ <;> simp only [e1]
  rotate_left
  · exact z.elim
  · simp only [e2]
    obtain ⟨c, e3, z⟩ := wq_ex z
    simp only [e3]; exact z
theorem we_disp {ks : List Key} (z : We (opn (dispT ks) os δ) Q E) : We (fDisp ks os δ) Q E := z
theorem we_call {ps : List Sh} {Ff : List T → Fo} (z : Wa os δ (fun ts δ' => Wf (Ff ts) (fun t l => Sd (l.length = ps.length) (Nm (wb ps (skO os) l δ') (Q t))) fun e l => Sd (l.length = ps.length) (Nm (wb ps (skO os) l δ') (E e))) E) : We (fCall ps Ff os δ) Q E := by
  rw [ap_call]
  rcases wa_c z with ⟨l0, d0, ts0, e1, e2, z⟩ | ⟨t0, d0, e1, z⟩
  · simp only [e1, e2]
    rcases wf_or z with ⟨t, l, e3, h, z⟩ | ⟨t, l, e3, h, z⟩
    · simp only [e3, h, if_true]; exact z
    · simp only [e3, h, if_true]; exact z
  · simp only [e1]; exact z
theorem we_app (z : At δ i fun x => Is x T.lst fun us0 => We (f δ) (fun t δ' => At δ' i fun x => Is x T.lst fun us => Sd (us.length < sizeLine) (Nm (δ'.set i (some (.lst (us ++ [t])))) (Q .non))) E) : We (fApp i f δ) Q E := by
  obtain ⟨_, e0, us0, rfl, z⟩ := z
  rw [ap_app, e0]
  rcases we_c z with ⟨t0, d0, e0, z⟩ | ⟨t0, d0, e0, z⟩ <;> simp only [e0]
  · obtain ⟨_, e1, us, rfl, h, z⟩ := z
    simp only [e1, h, if_true]; exact z
  · exact z
theorem we_if (z : Wb (t δ) (fun c δ' => if c = true then We (f δ') Q E else We (g δ') Q E) E) : We (ifE t f g δ) Q E := by
  rw [ap_ifE]
  rcases wb_c z with ⟨t0, d0, e0, z⟩ | ⟨t0, d0, e0, z⟩ <;> simp only [e0]
  · cases t0 <;> exact z
  · exact z
theorem we_andW (z : We (f δ) (fun t δ' => Wt (truW t) fun c => if c = true then We (g δ') Q E else Q t δ') E) : We (andW f g δ) Q E := by
  rw [ap_andW]
  rcases we_c z with ⟨t0, d0, e0, z⟩ | ⟨t0, d0, e0, z⟩ <;> simp only [e0]
  ·
    obtain ⟨c0, e0, z⟩ := wt_ex z
    simp only [e0]
    cases c0 <;> exact z
  · exact z
theorem we_orW (z : We (f δ) (fun t δ' => Wt (truW t) fun c => if c = true then Q t δ' else We (g δ') Q E) E) : We (orW f g δ) Q E := by
  rw [ap_orW]
  rcases we_c z with ⟨t0, d0, e0, z⟩ | ⟨t0, d0, e0, z⟩ <;> simp only [e0]
  ·
    obtain ⟨c0, e0, z⟩ := wt_ex z
    simp only [e0]
    cases c0 <;> exact z
  · exact z
theorem we_lc {vs : List Nat} (z : Wi (its δ) (fun ts δ' => Sd (ts.length < sizeLine) (Nm (wipeD δ' vs) fun δ3 => S2 (lcL gp t f vs ts δ3) fun us δ2 => Q (.lst us) δ2)) E) : We (lcE its gp t f vs δ) Q E := by
  rw [ap_lcE]
  rcases wi_c z with ⟨t0, d0, e0, z⟩ | ⟨t0, d0, e0, z⟩ <;> simp only [e0]
  · obtain ⟨h, us, δ2, e, z⟩ := z
    simp only [h, if_true, e]; exact z
  · exact z
/-! operands -/
theorem wa_nil (z : QL [] δ) : Wa [] δ QL E := z
theorem wa_val (z : We (f δ) (fun t δ1 => Wa os δ1 (fun us δ' => QL (t :: us) δ') E) E) : Wa (.val f :: os) δ QL E := by
  unfold Wa
  rw [rnE]
  rcases we_c z with ⟨t0, d0, e0, z⟩ | ⟨t0, d0, e0, z⟩
  · simp only [e0]
    rcases wa_c z with ⟨l0, d1, ts0, e1, e2, z⟩ | ⟨x0, d1, e1, z⟩
    · simp only [e1, rsE, e2]; exact z
    · simp only [e1]; exact z
  · simp only [e0]; exact z
theorem wa_var (e : dAt δ i = some x) (z : Wa os δ (fun us δ' => At δ' i fun y => QL (y :: us) δ') E) : Wa (.var i :: os) δ QL E := by
  unfold Wa
  rw [rnV, e]
  rcases wa_c z with ⟨l0, d1, ts0, e1, e2, y, e3, z⟩ | ⟨x0, d1, e1, z⟩
  · simp only [e1, rsV, e2, e3]; exact z
  · simp only [e1]; exact z
theorem wl_nil (z : ql []) : Wl (evq [] δ) ql := z
theorem wl_cons (z : Wq (u δ) fun t => Wl (evq fs δ) fun us => ql (t :: us)) : Wl (evq (u :: fs) δ) ql := by
  rw [evS]
  obtain ⟨c0, e0, z⟩ := wq_ex z
  obtain ⟨c1, e1, z⟩ := wl_ex z
  simp only [e0, e1]; exact z
/-! quiet ones -/
theorem wq_opq (z : Wl (evq fs δ) fun ts => Wq (op ts) q) : Wq (opq op fs δ) q := by
  rw [ap_opq]
  obtain ⟨c0, e0, z⟩ := wl_ex z
  simp only [e0]
  exact z
theorem wq_eV (e : dAt δ i = some x) (z : q x) : Wq (eV i δ) q := by rw [ap_eV, e]; exact z
theorem wq_eC (z : q x) : Wq (eC x δ) q := z
theorem wq_eP {π : List Pt} (e : dAt δ i = some x) (e2 : getP x π = some y) (z : q y) : Wq (eP i π δ) q := by unfold eP; rw [e]; simp only [e2]; exact z
theorem wq_if (z : Wt (a δ) fun c => if c = true then Wq (u δ) q else Wq (v δ) q) : Wq (ifQ a u v δ) q := by
  rw [ap_ifQ]
  obtain ⟨c0, e0, z⟩ := wt_ex z
  simp only [e0]
  cases c0 <;> exact z
theorem wq_andV (z : Wq (u δ) fun t => Wt (truW t) fun c => if c = true then Wq (v δ) q else q t) : Wq (andV u v δ) q := by
  rw [ap_andV]
  obtain ⟨c0, e0, z⟩ := wq_ex z
  obtain ⟨c1, e1, z⟩ := wt_ex z
  simp only [e0, e1]
  cases c1 <;> exact z
theorem wq_orV (z : Wq (u δ) fun t => Wt (truW t) fun c => if c = true then q t else Wq (v δ) q) : Wq (orV u v δ) q := by
  rw [ap_orV]
  obtain ⟨c0, e0, z⟩ := wq_ex z
  obtain ⟨c1, e1, z⟩ := wt_ex z
  simp only [e0, e1]
  cases c1 <;> exact z
theorem wq_ch (z : Wq (u δ) fun x => Wq (v δ) fun y => Wq (op [x, y]) fun c => Is c T.bl fun k => if k = true then Wq (w δ) (fun z => Wq (op' [y, z]) q) else q (.bl false)) : Wq (chQ op op' u v w δ) q := by
  rw [ap_chQ]
  obtain ⟨x, e1, z⟩ := wq_ex z
  obtain ⟨y, e2, z⟩ := wq_ex z
  obtain ⟨c, e3, z⟩ := wq_ex z
  obtain ⟨k, rfl, z⟩ := z
  simp only [e1, e2, e3]
  cases k
  · exact z
  · rw [if_pos rfl] at z
    obtain ⟨r, e4, z⟩ := wq_ex z
    simp only [e4]; exact z
/-! tests -/
theorem wt_asB (z : Wq (u δ) fun t => Is t T.bl qb) : Wt (asB u δ) qb := by
  rw [ap_asB]
  obtain ⟨x, e1, c, rfl, z⟩ := wq_ex z
  simp only [e1]; exact z
theorem wt_asTru (z : Wq (u δ) fun t => Wt (truT t) qb) : Wt (asTru u δ) qb := by
  rw [ap_asTru]
  obtain ⟨x, e1, z⟩ := wq_ex z
  simp only [e1]; exact z
theorem wb_asBE (z : We (f δ) (fun t δ' => Is t T.bl fun c => QB c δ') E) : Wb (asBE f δ) QB E := by
  rw [ap_asBE]
  rcases we_c z with ⟨t0, d0, e0, z⟩ | ⟨t0, d0, e0, z⟩ <;> simp only [e0]
  · obtain ⟨c, rfl, z⟩ := z; exact z
  · exact z
theorem wb_asTruE (z : We (f δ) (fun t δ' => Wt (truT t) fun c => QB c δ') E) : Wb (asTruE f δ) QB E := by
  rw [ap_asTruE]
  rcases we_c z with ⟨t0, d0, e0, z⟩ | ⟨t0, d0, e0, z⟩ <;> simp only [e0]
  ·
    obtain ⟨c0, e0, z⟩ := wt_ex z
    simp only [e0]; exact z
  · exact z
theorem wb_qB (z : Wt (a δ) fun c => QB c δ) : Wb (qB a δ) QB E := by
  rw [ap_qB]
  obtain ⟨c0, e0, z⟩ := wt_ex z
  simp only [e0]
  exact z
theorem wb_yes (z : QB true δ) : Wb (yesB δ) QB E := z
theorem wt_not (z : Wt (a δ) fun c => qb (!c)) : Wt (notQ a δ) qb := by
  rw [ap_notQ]
  obtain ⟨c0, e0, z⟩ := wt_ex z
  simp only [e0]
  exact z
theorem wt_and (z : Wt (a δ) fun c => if c = true then Wt (b δ) qb else qb false) : Wt (andQ a b δ) qb := by
  rw [ap_andQ]
  obtain ⟨c0, e0, z⟩ := wt_ex z
  simp only [e0]
  cases c0 <;> exact z
theorem wt_or (z : Wt (a δ) fun c => if c = true then qb true else Wt (b δ) qb) : Wt (orQ a b δ) qb := by
  rw [ap_orQ]
  obtain ⟨c0, e0, z⟩ := wt_ex z
  simp only [e0]
  cases c0 <;> exact z
theorem wb_not (z : Wb (t δ) (fun c δ' => QB (!c) δ') E) : Wb (notE t δ) QB E := by
  rw [ap_notE]
  rcases wb_c z with ⟨t0, d0, e0, z⟩ | ⟨t0, d0, e0, z⟩ <;> simp only [e0]
  · exact z
  · exact z
theorem wb_and (z : Wb (t δ) (fun c δ' => if c = true then Wb (s δ') QB E else QB false δ') E) : Wb (andE t s δ) QB E := by
  rw [ap_andE]
  rcases wb_c z with ⟨t0, d0, e0, z⟩ | ⟨t0, d0, e0, z⟩ <;> simp only [e0]
  · cases t0 <;> exact z
  · exact z
theorem wb_or (z : Wb (t δ) (fun c δ' => if c = true then QB true δ' else Wb (s δ') QB E) E) : Wb (orE t s δ) QB E := by
  rw [ap_orE]
  rcases wb_c z with ⟨t0, d0, e0, z⟩ | ⟨t0, d0, e0, z⟩ <;> simp only [e0]
  · cases t0 <;> exact z
  · exact z
/-! targets, what is walked over -/
theorem wd_gN (z : Nm (δ.set i (some x)) QD) : Wd (gN i x δ) QD := z
theorem wd_gT (e : seqT x = some ts) (z : Wd (gs ts δ) QD) : Wd (gT gs x δ) QD := by rw [ap_gT, e]; exact z
theorem wd_nil (z : QD δ) : Wd (gNl [] δ) QD := z
theorem wd_cons (z : Wd (gp x δ) fun δ' => Wd (gs ts δ') QD) : Wd (gCs gp gs (x :: ts) δ) QD := by
  rw [ap_gCs]
  obtain ⟨c0, e0, z⟩ := wd_ex z
  simp only [e0]; exact z
theorem wi_it (z : We (f δ) (fun t δ' => So (itT t) fun ts => QL ts δ') E) : Wi (itE f δ) QL E := by
  rw [ap_itE]
  rcases we_c z with ⟨t0, d0, e0, z⟩ | ⟨t0, d0, e0, z⟩ <;> simp only [e0]
  · obtain ⟨us, e, z⟩ := z; simp only [e]; exact z
  · exact z
theorem wi_r1 (z : We (f δ) (fun t δ' => Is t T.int fun j => Sd (-4611686018427387904 ≤ j ∧ j < 4611686018427387904) (QL ((List.range j.toNat).map fun i => T.int (i : Nat)) δ')) E) : Wi (itR1 f δ) QL E := by
  rw [ap_itR1]
  rcases we_c z with ⟨t0, d0, e0, z⟩ | ⟨t0, d0, e0, z⟩ <;> simp only [e0]
  · obtain ⟨j, rfl, h, z⟩ := z
    have h' : -(2 ^ 62) ≤ j ∧ j < 2 ^ 62 := h
    simp only [if_pos h', Int.zero_add]; exact z
  · exact z
theorem wi_r2 (z : We (f δ) (fun t δ1 => Is t T.int fun i => We (g δ1) (fun t δ' => Is t T.int fun j => Sd (-4611686018427387904 ≤ i ∧ i < 4611686018427387904 ∧ -4611686018427387904 ≤ j ∧ j < 4611686018427387904) (QL ((List.range (j - i).toNat).map fun n => T.int (i + (n : Nat))) δ')) E) E) : Wi (itR2 f g δ) QL E := by
  rw [ap_itR2]
  rcases we_c z with ⟨t0, d0, e0, z⟩ | ⟨t0, d0, e0, z⟩ <;> simp only [e0]
  · obtain ⟨i, rfl, z⟩ := z
    simp only
    rcases we_c z with ⟨t1, d1, e1, j, rfl, h, z⟩ | ⟨t1, d1, e1, z⟩
    · have h' : -(2 ^ 62) ≤ i ∧ i < 2 ^ 62 ∧ -(2 ^ 62) ≤ j ∧ j < 2 ^ 62 := h
      simp only [e1, if_pos h']; exact z
    · simp only [e1]; exact z
  · exact z
theorem wi_en (z : We (f δ) (fun t δ' => Is t T.lst fun ts => QL (enT ts) δ') E) : Wi (itEn f δ) QL E := by
  rw [ap_itEn]
  rcases we_c z with ⟨t0, d0, e0, z⟩ | ⟨t0, d0, e0, z⟩ <;> simp only [e0]
  · obtain ⟨us, rfl, z⟩ := z; exact z
  · exact z
/-! a def -/
theorem wf_fn {ps : List Sh} {m : Nat} {rs : Sh} {RR : T → List T → Prop} {EE : Xn → List T → Prop} (z : Nm (ts.map some ++ List.replicate m none) fun δ => Ws (F δ) (fun δ => Sd (rs.nilOk = true) (Fn ps ts δ (RR .non))) (fun _ => False) (fun _ => False) (fun t δ => Fn ps ts δ (RR t)) (fun e δ => Fn ps ts δ (EE e))) : Wf (fnT ps m rs F ts) RR EE := by
  unfold Nm at z
  try dsimp only at z
  rw [ap_fn]; unfold Ws at z
  split at z
  · exact z.elim
  · rename_i e
    obtain ⟨h, l, e2, z⟩ := z
    simp only [e, h, if_true, e2]; exact z
  · exact z.elim
  · exact z.elim
  · rename_i e
    obtain ⟨l, e2, z⟩ := z
    simp only [e, e2]; exact z
  · rename_i e
    obtain ⟨l, e2, z⟩ := z
    simp only [e, e2]; exact z
theorem fin_o {s : Sh} {ss : List Sh} {l : List T} {y : T} (e : fin ss ts δ = some l) (h : s.isO = true := by rfl) : fin (s :: ss) (x :: ts) (some y :: δ) = some (y :: l) := by rw [finS, e]; simp only [h, if_true]
theorem fin_f {s : Sh} {ss : List Sh} {d : Option T} {l : List T} (e : fin ss ts δ = some l) (h : s.isO = false := by rfl) : fin (s :: ss) (x :: ts) (d :: δ) = some (x :: l) := by rw [finS, e]; simp only [h, Bool.false_eq_true, if_false]
end
end NQ
namespace NQ
open PySem L2
/-! ### the operations, wished for -/
section
variable {q : T → Prop} {qb : Bool → Prop} {a b : Str} {i j n : Int} {xs ys ts : List T} {x y c : T} {k : Bool} {f : Int → Int → Bool} {op op' : Op}
theorem wo_addi (z : q (.int (i + j))) : Wq (addR [.int i, .int j]) q := z
theorem wo_adds (h : a.length + b.length ≤ 16777216) (z : q (.str (a ++ b))) : Wq (addR [.str a, .str b]) q := by rw [o_adds, if_pos (by rw [sz_eq]; exact h)]; exact z
theorem wo_addAi (z : q (.int (i + j))) : Wq (addA [.int i, .int j]) q := z
theorem wo_addAs (h : a.length + b.length ≤ 16777216) (z : q (.str (a ++ b))) : Wq (addA [.str a, .str b]) q := by rw [o_addAs (by rw [sz_eq]; exact h)]; exact z
theorem wo_addL (h : xs.length + ys.length ≤ 16777216) (z : q (.lst (xs ++ ys))) : Wq (addL [.lst xs, .lst ys]) q := by rw [o_addL, if_pos (by rw [sz_eq]; exact h)]; exact z
theorem wo_addAl (h : xs.length + ys.length ≤ 16777216) (z : q (.lst (xs ++ ys))) : Wq (addA [.lst xs, .lst ys]) q := by rw [o_addAl, if_pos (by rw [sz_eq]; exact h)]; exact z
theorem wo_addI (z : q (.int (i + j))) : Wq (addI [.int i, .int j]) q := z
theorem wo_subI (z : q (.int (i - j))) : Wq (subI [.int i, .int j]) q := z
theorem wo_subi (z : q (.int (i - j))) : Wq (subT [.int i, .int j]) q := z
theorem wo_muliL (h1 : -18446744073709551616 < i) (h2 : i < 18446744073709551616) (z : q (.int (i * j))) : Wq (mulR [.int i, .int j]) q := by rw [o_muli, if_pos (.inl ⟨h1, h2⟩)]; exact z
theorem wo_muliR (h1 : -18446744073709551616 < j) (h2 : j < 18446744073709551616) (z : q (.int (i * j))) : Wq (mulR [.int i, .int j]) q := by rw [o_muli, if_pos (.inr (.inl ⟨h1, h2⟩))]; exact z
theorem wo_mulAL (h1 : -18446744073709551616 < i) (h2 : i < 18446744073709551616) (z : q (.int (i * j))) : Wq (mulA [.int i, .int j]) q := by rw [o_mulAi (.inl ⟨h1, h2⟩)]; exact z
theorem wo_mulAR (h1 : -18446744073709551616 < j) (h2 : j < 18446744073709551616) (z : q (.int (i * j))) : Wq (mulA [.int i, .int j]) q := by rw [o_mulAi (.inr (.inl ⟨h1, h2⟩))]; exact z
theorem wo_muls (h1 : -1048576 < n ∧ n < 1048576 ∧ a.length * n.toNat ≤ 1000000) (z : q (.str (Txt.mul a n))) : Wq (mulR [.str a, .int n]) q := by
  have h1' : -(2 ^ 20) < n ∧ n < 2 ^ 20 ∧ a.length * n.toNat ≤ 1000000 := h1
  rw [o_muls, if_pos h1']; exact z
theorem wo_mulL (h1 : -9223372036854775808 ≤ n ∧ n < 9223372036854775808 ∧ xs.length * n.toNat ≤ 16777216) (z : q (.lst (List.replicate n.toNat xs).flatten)) : Wq (mulL [.lst xs, .int n]) q := by
  have h1' : -(2 ^ 63) ≤ n ∧ n < 2 ^ 63 ∧ xs.length * n.toNat ≤ sizeLine := h1
  rw [o_mulL, if_pos h1']; exact z
theorem wo_mulAl (h1 : -9223372036854775808 ≤ n ∧ n < 9223372036854775808 ∧ xs.length * n.toNat ≤ 16777216) (z : q (.lst (List.replicate n.toNat xs).flatten)) : Wq (mulA [.lst xs, .int n]) q := by
  have h1' : -(2 ^ 63) ≤ n ∧ n < 2 ^ 63 ∧ xs.length * n.toNat ≤ sizeLine := h1
  rw [o_mulAl, if_pos h1']; exact z
theorem wo_modi (h : 0 < j) (z : q (.int (i % j))) : Wq (modT [.int i, .int j]) q := by rw [o_modi, if_pos h]; exact z
theorem wo_divi (h0 : 0 < j) (h1 : j < 1000000000000) (z : q (.int (i / j))) : Wq (divT [.int i, .int j]) q := by rw [o_divs h0 h1]; exact z
theorem wo_powi (h0 : 0 ≤ j) (h1 : j ≤ 1000000) (h2 : -18446744073709551616 < i) (h3 : i < 18446744073709551616) (z : q (.int (i ^ j.toNat))) : Wq (powT [.int i, .int j]) q := by rw [o_pows h0 h1 h2 h3]; exact z
theorem wo_cmp (z : q (.bl (f i j))) : Wq (cmpT f [.int i, .int j]) q := z
theorem wo_neg (z : q (.int (-i))) : Wq (negT [.int i]) q := z
theorem wo_eq (e : eqB x y = some k) (z : q (.bl k)) : Wq (eqT [x, y]) q := by rw [o_eq, e]; exact z
theorem wo_ne (e : eqB x y = some k) (z : q (.bl (!k))) : Wq (neT [x, y]) q := by rw [o_ne, e]; exact z
theorem wo_isN (z : q (.bl x.isN)) : Wq (isNT [x, .non]) q := z
theorem wo_notN (z : q (.bl (!x.isN))) : Wq (notNT [x, .non]) q := z
theorem wo_in (e : memB x y = some k) (z : q (.bl k)) : Wq (inA [x, y]) q := by rw [o_in e]; exact z
theorem wo_nin (e : memB x y = some k) (z : q (.bl (!k))) : Wq (ninA [x, y]) q := by rw [o_nin e]; exact z
theorem wo_len_l (z : q (.int xs.length)) : Wq (lenT [.lst xs]) q := z
theorem wo_len_t (z : q (.int xs.length)) : Wq (lenT [.tup xs]) q := z
theorem wo_len_c (z : q (.int xs.length)) : Wq (lenT [.ctup xs]) q := z
theorem wo_len_s (h : a.length ≤ 16777216) (z : q (.int a.length)) : Wq (lenT [.str a]) q := by rw [o_len_s, if_pos (by rw [sz_eq]; exact h)]; exact z
theorem wo_int_i (z : q (.int i)) : Wq (intT [.int i]) q := z
theorem wo_int_b (z : q (.int (if k then 1 else 0))) : Wq (intT [.bl k]) q := z
theorem wo_str_s (z : q (.str a)) : Wq (strT [.str a]) q := z
theorem wo_abs (z : q (.int (if i < 0 then -i else i))) : Wq (absT [.int i]) q := z
theorem wo_max (z : q (.int (if j > i then j else i))) : Wq (maxT [.int i, .int j]) q := z
theorem wo_min (z : q (.int (if j < i then j else i))) : Wq (minT [.int i, .int j]) q := z
theorem wo_list_l (z : q (.lst xs)) : Wq (listA [.lst xs]) q := z
theorem wo_list_t (z : q (.lst xs)) : Wq (listA [.tup xs]) q := z
theorem wo_list_c (z : q (.lst xs)) : Wq (listA [.ctup xs]) q := z
theorem wo_list_s (h : a.length ≤ 16777216) (z : q (.lst ((NL.sgn a).map T.str))) : Wq (listA [.str a]) q := by rw [o_list_s, if_pos (by rw [sz_eq]; exact h)]; exact z
theorem wo_tuple (z : q (.tup xs)) : Wq (tupleL [.lst xs]) q := z
theorem wo_lst (h : ts.length ≤ 16777216) (z : q (.lst ts)) : Wq (lstT ts) q := by rw [o_lst, if_pos (by rw [sz_eq]; exact h)]; exact z
theorem wo_tup (h : ts.length ≤ 16777216) (z : q (.tup ts)) : Wq (tupT ts) q := by rw [o_tup, if_pos (by rw [sz_eq]; exact h)]; exact z
theorem wo_disp {ks : List Key} (h1 : ks.Nodup) (h2 : ks.length = ts.length) (h3 : ks.length ≤ 15) (z : q (.dic ks ts)) : Wq (dispT ks ts) q := by rw [o_disp, if_pos ⟨h1, h2, h3⟩]; exact z
theorem wo_split (h1 : (b.length == 0) = false) (h2 : a.length ≤ 16777214) (z : q (.lst ((Txt.split a b).map T.str))) : Wq (splitT [.str a, .str b]) q := by rw [o_split, if_pos ⟨h1, by rw [sz_eq]; omega⟩]; exact z
theorem wo_words (h2 : a.length ≤ 16777214) (z : q (.lst ((Txt.words a).map T.str))) : Wq (wordsT [.str a]) q := by rw [o_words, if_pos (by rw [sz_eq]; omega)]; exact z
theorem wo_strip (h2 : a.length ≤ 16777216) (z : q (.str (Txt.strip a))) : Wq (stripT [.str a]) q := by rw [o_strip, if_pos (by rw [sz_eq]; exact h2)]; exact z
theorem wo_join {l : List Str} (e : ts = l.map T.str) (h : (l.map (·.length)).sum + l.length * a.length ≤ 16777216) (z : q (.str (Txt.join a l))) : Wq (joinT [.str a, .lst ts]) q := by subst e; rw [o_join, if_pos h]; exact z
theorem wo_slS1 (h : a.length ≤ 16777216) (z : q (.str (cutS a (some i) none))) : Wq (slS true false [.str a, .int i]) q := by rw [o_slS1, if_pos (by rw [sz_eq]; exact h)]; exact z
theorem wo_slS2 (h : a.length ≤ 16777216) (z : q (.str (cutS a none (some i)))) : Wq (slS false true [.str a, .int i]) q := by rw [o_slS2, if_pos (by rw [sz_eq]; exact h)]; exact z
theorem wo_slS3 (h : a.length ≤ 16777216) (z : q (.str (cutS a (some i) (some j)))) : Wq (slS true true [.str a, .int i, .int j]) q := by rw [o_slS3, if_pos (by rw [sz_eq]; exact h)]; exact z
theorem wo_slL1 (z : q (.lst (cutT xs (some i) none))) : Wq (slL true false [.lst xs, .int i]) q := z
theorem wo_slL2 (z : q (.lst (cutT xs none (some i)))) : Wq (slL false true [.lst xs, .int i]) q := z
theorem wo_slL3 (z : q (.lst (cutT xs (some i) (some j)))) : Wq (slL true true [.lst xs, .int i, .int j]) q := z
theorem wo_ixR_l (e : atI xs i = some x) (h : x.isS = true) (z : q x) : Wq (ixRA [.lst xs, .int i]) q := by rw [o_ixR_l, e]; simp only [h, if_true]; exact z
theorem wo_ixR_t (e : atI xs i = some x) (h : x.isS = true) (z : q x) : Wq (ixRA [.tup xs, .int i]) q := by rw [o_ixR_t, e]; simp only [h, if_true]; exact z
theorem wo_ix_l (e : atI xs i = some x) (z : q x) : Wq (ixA [.lst xs, .int i]) q := by rw [o_ix_l, e]; exact z
theorem wo_ix_t (e : atI xs i = some x) (z : q x) : Wq (ixA [.tup xs, .int i]) q := by rw [o_ix_t, e]; exact z
theorem wo_ix_s {c : Nat} (e : atI a.cps.toList i = some c) (h : a.length ≤ 16777216) (z : q (.str ⟨#[c]⟩)) : Wq (ixA [.str a, .int i]) q := by rw [o_ix_s, if_pos (by rw [sz_eq]; exact h), e]; exact z
theorem wo_ix_d {ks : List Key} {kk : Key} (h : x.key = some kk) (e : lookT ks xs kk = some y) (z : q y) : Wq (ixA [.dic ks xs, x]) q := by rw [o_ix_d h, e]; exact z
theorem wo_isi {m p : String} (h : x.tyn = some m) (h2 : subB m p = some k) (z : q (.bl k)) : Wq (isiT [x, .ty p]) q := by rw [o_isi h h2]; exact z
theorem wt_b (z : qb k) : Wt (truT (.bl k)) qb := z
theorem wt_i (z : qb (i != 0)) : Wt (truT (.int i)) qb := z
theorem wt_l (z : qb (!xs.isEmpty)) : Wt (truT (.lst xs)) qb := z
theorem wt_n (z : qb false) : Wt (truT .non) qb := z
theorem wt_s (h : a.length ≤ 16777216) (z : qb ((a.length : Int) != 0)) : Wt (truT (.str a)) qb := by rw [tru_s, if_pos (by rw [sz_eq]; exact h)]; exact z
theorem wtw_b (z : qb k) : Wt (truW (.bl k)) qb := z
theorem wtw_n (z : qb false) : Wt (truW .non) qb := z
theorem wtw_i (z : qb (i != 0)) : Wt (truW (.int i)) qb := z
theorem wtw_l (z : qb (!xs.isEmpty)) : Wt (truW (.lst xs)) qb := z
/-! equality of scalars -/
theorem eqB_ii : eqB (.int i) (.int j) = some (decide (i = j)) := by
  unfold eqB
  simp only [T.pd]
  by_cases h : i = j <;> simp [PyData.depth, PyData.eqv, h]
theorem eqB_ss : eqB (.str a) (.str b) = some (decide (a = b)) := by
  unfold eqB
  simp only [T.pd]
  by_cases h : a = b <;> simp [PyData.depth, PyData.eqv, h]
theorem ite_t {A B : Prop} {k : Bool} (e : k = true) (z : A) : if k = true then A else B := by rw [if_pos e]; exact z
theorem ite_f {A B : Prop} {k : Bool} (e : k = false) (z : B) : if k = true then A else B := by rw [if_neg (by rw [e]; exact Bool.false_ne_true)]; exact z
end
end NQ
namespace NQ
open PySem L2
/-! ### equality of plain data: no truth values, no written tuples -/
def T.pl : Nat → T → Bool
  | _, .non => true
  | _, .int _ => true
  | _, .str _ => true
  | n + 1, .lst ts => ts.all (T.pl n)
  | n + 1, .tup ts => ts.all (T.pl n)
  | _, _ => false
theorem pd_lst {ts : List T} {ds : List PyData} (h : pdL ts = some ds) : (T.lst ts).pd = some (.list ds) := by
  show (match pdL ts with | some ds => some (PyData.list ds) | none => none) = _
  rw [h]
theorem pd_tup {ts : List T} {ds : List PyData} (h : pdL ts = some ds) : (T.tup ts).pd = some (.tuple ds) := by
  show (match pdL ts with | some ds => some (PyData.tuple ds) | none => none) = _
  rw [h]
theorem pl_pds {n : Nat} (ih : ∀ {x : T}, T.pl n x = true → ∃ d, x.pd = some d ∧ d.depth ≤ n + 1) : ∀ {ts : List T}, ts.all (T.pl n) = true → ∃ ds, pdL ts = some ds ∧ PyData.depthAll ds ≤ n + 1
  | [], _ => ⟨[], rfl, Nat.zero_le _⟩
  | t :: r, h => by
    rw [List.all_cons, Bool.and_eq_true] at h
    obtain ⟨d, h1, h2⟩ := ih h.1
    obtain ⟨ds, h3, h4⟩ := pl_pds ih h.2
    refine ⟨d :: ds, by show (match t.pd, pdL r with | some d, some ds => some (d :: ds) | _, _ => none) = _; rw [h1, h3], ?_⟩
    simp only [PyData.depthAll]
    omega
theorem pl_pd : ∀ {n : Nat} {x : T}, T.pl n x = true → ∃ d, x.pd = some d ∧ d.depth ≤ n + 1
  | n, .non, _ => ⟨.none, rfl, by simp [PyData.depth]⟩
  | n, .int i, _ => ⟨.int i, rfl, by simp [PyData.depth]⟩
  | n, .str s, _ => ⟨.str s, rfl, by simp [PyData.depth]⟩
  | n + 1, .lst ts, e => by
    obtain ⟨ds, h1, h2⟩ := pl_pds (n := n) (fun h => pl_pd h) (ts := ts) e
    exact ⟨.list ds, pd_lst h1, by simp only [PyData.depth]; omega⟩
  | n + 1, .tup ts, e => by
    obtain ⟨ds, h1, h2⟩ := pl_pds (n := n) (fun h => pl_pd h) (ts := ts) e
    exact ⟨.tuple ds, pd_tup h1, by simp only [PyData.depth]; omega⟩
  | 0, .lst _, e => by cases e
  | 0, .tup _, e => by cases e
  | n, .bl _, e => by cases n <;> cases e
  | n, .ctup _, e => by cases n <;> cases e
  | n, .clst _, e => by cases n <;> cases e
  | n, .dic _ _, e => by cases n <;> cases e
  | n, .dit _ _, e => by cases n <;> cases e
  | n, .ins _ _ _, e => by cases n <;> cases e
  | n, .gl _, e => by cases n <;> cases e
  | n, .ty _, e => by cases n <;> cases e
theorem pl_kinds {n : Nat} {x : T} (h : T.pl n x = true) : x = .non ∨ (∃ i, x = .int i) ∨ (∃ s, x = .str s) ∨ (∃ m ts, n = m + 1 ∧ x = .lst ts ∧ ts.all (T.pl m) = true) ∨ ∃ m ts, n = m + 1 ∧ x = .tup ts ∧ ts.all (T.pl m) = true := by
  cases x with
  | non => exact .inl rfl
  | int i => exact .inr (.inl ⟨i, rfl⟩)
  | str s => exact .inr (.inr (.inl ⟨s, rfl⟩))
  | lst ts =>
    cases n with
    | zero => cases h
    | succ m => exact .inr (.inr (.inr (.inl ⟨m, ts, rfl, rfl, h⟩)))
  | tup ts =>
    cases n with
    | zero => cases h
    | succ m => exact .inr (.inr (.inr (.inr ⟨m, ts, rfl, rfl, h⟩)))
  | _ => cases n <;> cases h
theorem pdL_cons {t : T} {r : List T} {ds : List PyData} (h : pdL (t :: r) = some ds) : ∃ d ds', t.pd = some d ∧ pdL r = some ds' ∧ ds = d :: ds' := by
  have h : (match t.pd, pdL r with | some d, some ds => some (d :: ds) | _, _ => none) = some ds := h
  split at h
  · cases h; rename_i h1 h2; exact ⟨_, _, h1, h2, rfl⟩
  · cases h
theorem pds_eqv {n : Nat} (ih : ∀ {x y : T} {d e : PyData}, T.pl n x = true → T.pl n y = true → x.pd = some d → y.pd = some e → (PyData.eqv d e = true ↔ x = y)) : ∀ {ts us : List T} {ds es : List PyData}, ts.all (T.pl n) = true → us.all (T.pl n) = true → pdL ts = some ds → pdL us = some es → (PyData.eqvAll ds es = true ↔ ts = us)
  | [], [], ds, es, _, _, h1, h2 => by cases h1; cases h2; simp [PyData.eqvAll]
  | [], u :: us, ds, es, _, _, h1, h2 => by
    obtain ⟨d, ds', _, _, rfl⟩ := pdL_cons h2
    cases h1
    simp [PyData.eqvAll]
  | t :: ts, [], ds, es, _, _, h1, h2 => by
    obtain ⟨d, ds', _, _, rfl⟩ := pdL_cons h1
    cases h2
    simp [PyData.eqvAll]
  | t :: ts, u :: us, ds, es, p1, p2, h1, h2 => by
    rw [List.all_cons, Bool.and_eq_true] at p1 p2
    obtain ⟨d, ds', a1, a2, rfl⟩ := pdL_cons h1
    obtain ⟨e, es', b1, b2, rfl⟩ := pdL_cons h2
    have q1 := ih p1.1 p2.1 a1 b1
    have q2 := pds_eqv ih p1.2 p2.2 a2 b2
    show (PyData.eqv d e && PyData.eqvAll ds' es') = true ↔ _
    rw [Bool.and_eq_true, q1, q2, List.cons.injEq]
theorem lst_pd {ts : List T} {d : PyData} (h : (T.lst ts).pd = some d) : ∃ ds, pdL ts = some ds ∧ d = .list ds := by
  have h : (match pdL ts with | some ds => some (PyData.list ds) | none => none) = some d := h
  split at h
  · cases h; rename_i h1; exact ⟨_, h1, rfl⟩
  · cases h
theorem tup_pd {ts : List T} {d : PyData} (h : (T.tup ts).pd = some d) : ∃ ds, pdL ts = some ds ∧ d = .tuple ds := by
  have h : (match pdL ts with | some ds => some (PyData.tuple ds) | none => none) = some d := h
  split at h
  · cases h; rename_i h1; exact ⟨_, h1, rfl⟩
  · cases h
theorem pd_eqv : ∀ {n : Nat} {x y : T} {d e : PyData}, T.pl n x = true → T.pl n y = true → x.pd = some d → y.pd = some e → (PyData.eqv d e = true ↔ x = y) := by
  intro n
  induction n with
  | zero =>
    intro x y d e p1 p2 h1 h2
    rcases pl_kinds p1 with rfl | ⟨i, rfl⟩ | ⟨s, rfl⟩ | ⟨_, _, z, _⟩ | ⟨_, _, z, _⟩ <;> try omega
    all_goals rcases pl_kinds p2 with rfl | ⟨j, rfl⟩ | ⟨u, rfl⟩ | ⟨_, _, z, _⟩ | ⟨_, _, z, _⟩ <;> first | omega | (cases h1; cases h2; simp [PyData.eqv])
  | succ n ih =>
    intro x y d e p1 p2 h1 h2
    rcases pl_kinds p1 with rfl | ⟨i, rfl⟩ | ⟨s, rfl⟩ | ⟨m, ts, z, rfl, q1⟩ | ⟨m, ts, z, rfl, q1⟩ <;> rcases pl_kinds p2 with rfl | ⟨j, rfl⟩ | ⟨u, rfl⟩ | ⟨m2, us, z2, rfl, q2⟩ | ⟨m2, us, z2, rfl, q2⟩
    all_goals first
      | (obtain rfl : n = m := by omega
         obtain rfl : n = m2 := by omega
         first
           | (obtain ⟨ds, a1, rfl⟩ := lst_pd h1
              obtain ⟨es, b1, rfl⟩ := lst_pd h2
              have := pds_eqv ih q1 q2 a1 b1
              simp only [PyData.eqv, this, T.lst.injEq])
           | (obtain ⟨ds, a1, rfl⟩ := tup_pd h1
              obtain ⟨es, b1, rfl⟩ := tup_pd h2
              have := pds_eqv ih q1 q2 a1 b1
              simp only [PyData.eqv, this, T.tup.injEq])
           | (obtain ⟨ds, a1, rfl⟩ := lst_pd h1
              obtain ⟨es, b1, rfl⟩ := tup_pd h2
              simp [PyData.eqv])
           | (obtain ⟨ds, a1, rfl⟩ := tup_pd h1
              obtain ⟨es, b1, rfl⟩ := lst_pd h2
              simp [PyData.eqv]))
      | (obtain ⟨ds, a1, rfl⟩ := lst_pd h1; cases h2; simp [PyData.eqv])
      | (obtain ⟨ds, a1, rfl⟩ := tup_pd h1; cases h2; simp [PyData.eqv])
      | (obtain ⟨ds, a1, rfl⟩ := lst_pd h2; cases h1; simp [PyData.eqv])
      | (obtain ⟨ds, a1, rfl⟩ := tup_pd h2; cases h1; simp [PyData.eqv])
      | (cases h1; cases h2; simp [PyData.eqv])
open Classical in
/-- == of plain data is equality -/
theorem eqB_pl (n : Nat) {x y : T} (p1 : T.pl n x = true) (p2 : T.pl n y = true) (hn : n ≤ 59 := by decide) : eqB x y = some (decide (x = y)) := by
  obtain ⟨d, a1, a2⟩ := pl_pd p1
  obtain ⟨e, b1, b2⟩ := pl_pd p2
  unfold eqB
  rw [a1, b1]
  have q := pd_eqv p1 p2 a1 b1
  simp only [show d.depth ≤ 60 by omega, show e.depth ≤ 60 by omega, and_self, if_true]
  congr 1
  by_cases z : x = y
  · rw [q.mpr z]; simp [z]
  · have : PyData.eqv d e = false := by
      cases h : PyData.eqv d e with
      | false => rfl
      | true => exact absurd (q.mp h) z
    rw [this]; simp [z]
/-! membership in texts, lists of texts -/
theorem memB_ch {s z : Str} {c : Nat} (h : s.cps.toList = [c]) : memB (.str s) (.str z) = some (decide (c ∈ z.cps.toList)) := by
  unfold memB
  simp only [h]
theorem memB_l {x : T} {l : List T} (h1 : x.isS = true) (h2 : l.all T.isS = true) : memB x (.lst l) = some (inS x l) := by
  unfold memB
  simp only [h1, h2, and_self, if_true]
theorem memB_t {x : T} {l : List T} (h1 : x.isS = true) (h2 : l.all T.isS = true) : memB x (.tup l) = some (inS x l) := by
  unfold memB
  simp only [h1, h2, and_self, if_true]
theorem memB_c {x : T} {l : List T} (h1 : x.isS = true) : memB x (.ctup l) = some (inS x l) := by
  unfold memB
  simp only [h1, if_true]
end NQ
namespace NQ
open PySem L2
/-! ### objects: fields read, fields stored -/
/-- e.f of a thing whose parts are frozen -/
def fldT (c f : Str) : Op
  | [.ins c' fs ts] => if c' = c then fldAt fs ts f else none
  | _ => none
section
variable {X : Cx} {K : PySem.W.Frag} {sh : Nat → Sh} {Wx : WX} {c f : Str} {e o : Expr} {pos pos' : Pos}
end
/-- a field is set, or comes behind -/
def fldPut (fs : List Str) (ts : List T) (f : Str) (u : T) : List Str × List T := match fldSet fs ts f u with
  | some ts' => (fs, ts')
  | none => (fs ++ [f], ts ++ [u])
/-- one part of several is put anew -/
theorem OwL.put {K : PySem.W.Frag} {G : Addr → Prop} {H : Hp} {N : List Addr} {y : V} {u : T} : ∀ {ss : List Sh} {F : List Addr} {vs : List V} {ts : List T} {j : Nat} {s : Sh}, OwL K G H ss F vs ts → ss[j]? = some s → Ow K G H s N y u → ∃ F', OwL K G H ss F' (vs.set j y) (ts.set j u) ∧ (∀ a ∈ F', a ∈ F ∨ a ∈ N) ∧ (F.Nodup → N.Nodup → (∀ a ∈ F, a ∉ N) → F'.Nodup)
  | _, _, _, _, j, s, .nil, e, _ => by simp at e
  | _, _, _, _, 0, s, .cons (F := F) (F' := F') h r, e, o => by
    simp at e
    subst e
    refine ⟨N ++ F', .cons o r, fun a z => (List.mem_append.mp z).elim .inr fun z => .inl (List.mem_append_right _ z), fun nd nn dj => ?_⟩
    have nx := List.nodup_append.mp nd
    exact List.nodup_append.mpr ⟨nn, nx.2.1, fun a h1 b h2 z => dj b (List.mem_append_right _ h2) (by rw [← z]; exact h1)⟩
  | _, _, _, _, j + 1, s, .cons (F := F) (F' := F') h r, e, o => by
    obtain ⟨F2, h1, h2, h3⟩ := OwL.put r (j := j) (by simpa using e) o
    refine ⟨F ++ F2, .cons h h1, fun a z => (List.mem_append.mp z).elim (fun z => .inl (List.mem_append_left _ z)) fun z => (h2 a z).imp (fun w => List.mem_append_right _ w) id, fun nd nn dj => ?_⟩
    have nx := List.nodup_append.mp nd
    refine List.nodup_append.mpr ⟨nx.1, h3 nx.2.1 nn fun a z => dj a (List.mem_append_right _ z), fun a k1 b k2 z => ?_⟩
    subst z
    rcases h2 a k2 with w | w
    · exact nx.2.2 a k1 a w rfl
    · exact dj a (List.mem_append_left _ k1) w
theorem Ow.ins {K : PySem.W.Frag} {G : Addr → Prop} {H : Hp} {d : List (Str × Sh)} {F : List Addr} {v : V} {c : Str} {fs : List Str} {ts : List T} (h : Ow K G H (.flds d) F v (.ins c fs ts)) : ∃ a F' vs dx, v = .ref a ∧ F = a :: F' ∧ fs.length = vs.length ∧ H a = some (.ins (He.ga K c) dx (fs.zip vs)) ∧ OwL K G H (fs.map fun f => (d.lookup f).getD .fz) F' vs ts := by
  cases h with
  | nd ce k r => cases k; obtain ⟨hl, dx, ch⟩ := ce; exact ⟨_, _, _, dx, rfl, rfl, hl, ch, r⟩
end NQ
namespace NQ
open PySem L2
/-! ### o.f = e, o a place in what is one's own -/
def putFld (i : Nat) (π : List Pt) (c f : Str) (u : T) (δ : Dl) : Option Dl := match dAt δ i with
  | some t => match getP t π with
    | some (.ins c' fs ts) => if c' = c ∧ fs.length < 1000 then (match setP t π (.ins c (fldPut fs ts f u).1 (fldPut fs ts f u).2) with
      | some t2 => some (δ.set i (some t2))
      | none => none) else none
    | _ => none
  | none => none
def sFld (i : Nat) (π : List Pt) (c f : Str) (g : Dl → Rs) : Sf := fun δ => match g δ with
  | none => none
  | some (.error e, δ') => some (.exc e, δ')
  | some (.ok u, δ') => match putFld i π c f u δ' with
    | some δ2 => some (.nx, δ2)
    | none => none
section
variable {X : Cx} {K : PySem.W.Frag} {c : Cf} {Wx : WX} {o e : Expr} {i : Nat} {π : List Pt} {g : Dl → Rs} {cl f : Str} {d : List (Str × Sh)} {pos pos' : Pos}
/-! ### o.f op= e, e quiet -/
def sAugF (i : Nat) (π : List Pt) (cl f : Str) (op : Op) (g : Qf) : Sf := fun δ => match eP i (π ++ [.fld cl f]) δ, g δ with
  | some a, some b => match op [a, b] with
    | some u => match putFld i π cl f u δ with
      | some δ2 => some (.nx, δ2)
      | none => none
    | none => none
  | _, _ => none
end
end NQ
namespace NQ
open PySem L2
/-! ### a place is written: append, d[k] = e, x[k] = e -/
def putPl (i : Nat) (π : List Pt) (w : T) (δ : Dl) : Option Dl := match dAt δ i with
  | some t => match setP t π w with
    | some t2 => some (δ.set i (some t2))
    | none => none
  | none => none
def fAppP (i : Nat) (π : List Pt) (q : Qf) : Dl → Rs := fun δ => match eP i π δ, q δ with
  | some (.lst ts), some u => if ts.length < sizeLine then (match putPl i π (.lst (ts ++ [u])) δ with
    | some δ2 => some (.ok .non, δ2)
    | none => none) else none
  | _, _ => none
section
variable {X : Cx} {K : PySem.W.Frag} {sh : Nat → Sh} {Wx : WX} {o e : Expr} {i : Nat} {π : List Pt} {q : Qf} {apos cpos : Pos}
end
/-! dicts -/
def dputL {κ : Type} [DecidableEq κ] (ks : List κ) (ts : List T) (k : κ) (u : T) : List κ × List T :=
  if (ks.any fun a => decide (a = k)) = true then (ks, List.zipWith (fun a t => if a = k then u else t) ks ts) else (ks ++ [k], ts ++ [u])
def dputT (d k u : T) : Option T := match d with
  | .dic ks ts => if ks.length = ts.length ∧ ks.length < sizeLine then (match k.key with
    | some k => some (.dic (dputL ks ts k u).1 (dputL ks ts k u).2)
    | none => none) else none
  | .dit ks ts => if ks.length = ts.length ∧ ks.length < sizeLine then (match k with
    | .tup us => match keysT us with
      | some k => some (.dit (dputL ks ts k u).1 (dputL ks ts k u).2)
      | none => none
    | _ => none) else none
  | _ => none
end NQ
namespace NQ
open PySem L2
theorem Ow.dic {K : PySem.W.Frag} {G : Addr → Prop} {H : Hp} {F : List Addr} {v : V} {ks : List Key} {ts : List T} (h : Ow K G H (.all .fz) F v (.dic ks ts)) : ∃ a vs, v = .ref a ∧ F = [a] ∧ ks.length = vs.length ∧ H a = some (.dK (ks.zip vs)) ∧ DfL K G H vs ts := by
  cases h with
  | nd c k r =>
    cases k
    obtain ⟨d, rfl⟩ := OwL.df (ts := ts) r
    exact ⟨_, _, rfl, rfl, c.1, c.2, d⟩
theorem Ow.dit {K : PySem.W.Frag} {G : Addr → Prop} {H : Hp} {F : List Addr} {v : V} {ks : List (List Key)} {ts : List T} (h : Ow K G H (.all .fz) F v (.dit ks ts)) : ∃ a vs, v = .ref a ∧ F = [a] ∧ ks.length = vs.length ∧ H a = some (.dT (ks.zip vs)) ∧ DfL K G H vs ts := by
  cases h with
  | nd c k r =>
    cases k
    obtain ⟨d, rfl⟩ := OwL.df (ts := ts) r
    exact ⟨_, _, rfl, rfl, c.1, c.2, d⟩
def sPutD (i : Nat) (π : List Pt) (qk : Qf) (g : Dl → Rs) : Sf := fun δ => match g δ with
  | none => none
  | some (.error e, δ') => some (.exc e, δ')
  | some (.ok u, δ') => match eP i π δ', qk δ' with
    | some d, some k => match dputT d k u with
      | some d2 => match putPl i π d2 δ' with
        | some δ2 => some (.nx, δ2)
        | none => none
      | none => none
    | _, _ => none
section
variable {X : Cx} {K : PySem.W.Frag} {c : Cf} {Wx : WX} {o e k : Expr} {i : Nat} {π : List Pt} {g : Dl → Rs} {q : Qf} {pos pos' : Pos}
/-! x[k] = e, x a list at a place -/
def sSetP (i : Nat) (π : List Pt) (qk : Qf) (g : Dl → Rs) : Sf := fun δ => match g δ with
  | none => none
  | some (.error e, δ') => some (.exc e, δ')
  | some (.ok u, δ') => match eP i π δ', qk δ' with
    | some (.lst ts), some (.int n) => match setAt ts n u with
      | some ts' => match putPl i π (.lst ts') δ' with
        | some δ2 => some (.nx, δ2)
        | none => none
      | none => none
    | _, _ => none
end
end NQ
namespace NQ
open PySem L2
/-! ### methods -/
/-- x.m(..), x one's own object -/
def fMeth (cl m : Str) (ps : List Sh) (F : List T → Fo) (i : Nat) (os : List Opd) : Dl → Rs := fun δ => match dAt δ i with
  | some (.ins c fs _) => if c = cl ∧ m ∉ fs then fCall ps F (.var i :: os) δ else none
  | _ => none
/-- x.m(..), x a frozen object -/
def fMethF (cl m : Str) (ps : List Sh) (F : List T → Fo) (q : Qf) (os : List Opd) : Dl → Rs := fun δ => match q δ with
  | some (.ins c fs _) => if c = cl ∧ m ∉ fs then fCall ps F (.val (qE q) :: os) δ else none
  | _ => none
section
variable {X : Cx} {K : PySem.W.Frag} {sh : Nat → Sh} {Wx : WX} {ps : List Sh} {rs : Sh} {F : List T → Fo} {os : List Opd} {k i : Nat} {cl m : Str} {o e : Expr} {es : List Expr} {params : List Str} {p pos apos : Pos} {q : Qf} {d : List (Str × Sh)}
end
end NQ
namespace NQ
open PySem L2
/-! ### an object made -/
def fMake (cl : Str) (F : List T → Fo) (os : List Opd) : Dl → Rs := fun δ => match runs os δ with
  | none => none
  | some (.error e, δ') => some (.error e, δ')
  | some (.ok l, δ') => match res l δ' with
    | none => none
    | some ts => match F (.ins cl [] [] :: ts) with
      | some (.ret .non, o :: _) => some (.ok o, δ')
      | some (.exc e, _) => some (.error e, δ')
      | _ => none
section
variable {K : PySem.W.Frag} {sh : Nat → Sh} {W : Addr → Prop} {Y N : List Addr} {Fm : Nat → List Addr} {H H' : Hp} {σ : L2.St} {δ : Dl}
/-- new places are held -/
theorem Fr.holds (f : Fr K sh W Y Fm H σ δ) (hN : N.Nodup) (hf : ∀ a ∈ N, H a = none) (e : EdP noA H H') (hl : ∀ a ∈ N, NT H' a) : Fr K sh W (N ++ Y) Fm H' σ δ := by
  have np : ∀ a, Gw Y Fm W a → a ∉ N := fun a z w => f.al a z (hf a w)
  have hg : ∀ a, Gm (N ++ Y) Fm a → Gm Y Fm a ∨ H a = none := fun a h => h.elim (fun q => (List.mem_append.mp q).elim (fun z => .inr (hf a z)) fun z => .inl (.inl z)) fun q => .inl (.inr q)
  have f2 := f.ed0 e
  refine ⟨fun i t h => by obtain ⟨v, h1, h2⟩ := f.rel i t h; exact ⟨v, h1, h2.step e (fun _ z => z.elim) (fun a z => z.elim (fun q => (hg a q).imp .inl id) fun q => .inl (.inr q)) hg fun _ _ z => z.elim⟩, f2.un, f2.nd, f2.dj, f2.dw, f2.wl, f2.len, ?_, fun i a q => ?_, fun a q => ?_, fun a q => ?_⟩
  · exact List.nodup_append.mpr ⟨hN, f.xn, fun a h1 b h2 z => np b (.inl (.inl h2)) (by rw [← z]; exact h1)⟩
  · rcases List.mem_append.mp q with q | q
    · exact fun z => np a (.inl (.inr ⟨i, z⟩)) q
    · exact f.xd i a q
  · rcases List.mem_append.mp q with q | q
    · exact fun z => np a (.inr z) q
    · exact f.xw a q
  · rcases List.mem_append.mp q with q | q
    · exact hl a q
    · exact f2.xl a q
end
section
variable {X : Cx} {K : PySem.W.Frag} {sh : Nat → Sh} {Wx : WX} {ps : List Sh} {F : List T → Fo} {os : List Opd} {k : Nat} {cl : Str} {e : Expr} {es : List Expr} {params : List Str} {p pos : Pos} {d : List (Str × Sh)}
end
end NQ
namespace NQ
open PySem L2
/-! ### walking: objects -/
section
variable {F G : Sf} {f g : Dl → Rs} {u v : Qf} {δ δ2 : Dl} {i : Nat} {op : Op} {os : List Opd} {x y t : T} {ts : List T} {fs : List Str} {π : List Pt} {cl fl m : Str}
variable {N B C : Dl → Prop} {R : T → Dl → Prop} {E : Xn → Dl → Prop} {Q : T → Dl → Prop} {q : T → Prop}
theorem wo_fld (e : fldAt fs ts fl = some y) (z : q y) : Wq (fldT cl fl [.ins cl fs ts]) q := by
  unfold fldT
  simp only [if_true, e]
  exact z
/-- what a place holds when its field is stored; P: the tree then -/
def Fp (t : T) (π : List Pt) (c f : Str) (u : T) (P : T → Prop) : Prop := ∃ fs ts t2, getP t π = some (.ins c fs ts) ∧ fs.length < 1000 ∧ setP t π (.ins c (fldPut fs ts f u).1 (fldPut fs ts f u).2) = some t2 ∧ P t2
theorem fp_put {c f : Str} {w : T} {Z : Dl → Prop} (e : dAt δ i = some t) (z : Fp t π c f w fun t2 => Z (δ.set i (some t2))) : ∃ δ2, putFld i π c f w δ = some δ2 ∧ Z δ2 := by
  obtain ⟨fs, ts, t2, h1, h2, h3, h4⟩ := z
  refine ⟨_, ?_, h4⟩
  unfold putFld
  rw [e]
  simp only [h1, h2, and_self, if_true, h3]
theorem fp_here {c f : Str} {w : T} {P : T → Prop} {fs' : List Str} {ts' : List T} (hl : fs.length < 1000) (e : fldPut fs ts f w = (fs', ts')) (z : P (.ins c fs' ts')) : Fp (.ins c fs ts) [] c f w P := ⟨fs, ts, .ins c fs' ts', rfl, hl, by rw [e]; rfl, z⟩
theorem ws_fld (z : We (g δ) (fun w δ' => At δ' i fun t => Fp t π cl fl w fun t2 => Nm (δ'.set i (some t2)) N) E) : Ws (sFld i π cl fl g δ) N B C R E := by
  unfold sFld
  rcases we_c z with ⟨w, d0, e0, t, e1, z⟩ | ⟨t0, d0, e0, z⟩ <;> simp only [e0]
  · obtain ⟨δ2, e2, z⟩ := fp_put e1 z
    simp only [e2]
    exact z
  · exact z
theorem ws_afld (z : Wq (eP i (π ++ [.fld cl fl]) δ) fun a => Wq (u δ) fun b => Wq (op [a, b]) fun w => At δ i fun t => Fp t π cl fl w fun t2 => Nm (δ.set i (some t2)) N) : Ws (sAugF i π cl fl op u δ) N B C R E := by
  unfold sAugF
  obtain ⟨a, e1, z⟩ := wq_ex z
  obtain ⟨b, e2, z⟩ := wq_ex z
  obtain ⟨w, e3, t, e4, z⟩ := wq_ex z
  obtain ⟨δ2, e5, z⟩ := fp_put e4 z
  simp only [e1, e2, e3, e5]
  exact z
theorem put_go {w : T} {Z : Dl → Prop} (e : dAt δ i = some t) (z : So (setP t π w) fun t2 => Z (δ.set i (some t2))) : ∃ δ2, putPl i π w δ = some δ2 ∧ Z δ2 := by
  obtain ⟨t2, h1, h2⟩ := z
  refine ⟨_, ?_, h2⟩
  unfold putPl
  rw [e]
  simp only [h1]
theorem we_appP (z : Wq (eP i π δ) fun x => Is x T.lst fun us => Wq (u δ) fun w => Sd (us.length < sizeLine) (At δ i fun t => So (setP t π (.lst (us ++ [w]))) fun t2 => Nm (δ.set i (some t2)) (Q .non))) : We (fAppP i π u δ) Q E := by
  unfold fAppP
  obtain ⟨_, e1, us, rfl, z⟩ := wq_ex z
  obtain ⟨w, e2, hl, t, e3, z⟩ := wq_ex z
  obtain ⟨δ2, e4, z⟩ := put_go e3 z
  simp only [e1, e2, hl, if_true, e4]
  exact z
theorem ws_putD (z : We (g δ) (fun w δ' => Wq (eP i π δ') fun d => Wq (u δ') fun k => So (dputT d k w) fun d2 => At δ' i fun t => So (setP t π d2) fun t2 => Nm (δ'.set i (some t2)) N) E) : Ws (sPutD i π u g δ) N B C R E := by
  unfold sPutD
  rcases we_c z with ⟨w, d0, e0, z⟩ | ⟨t0, d0, e0, z⟩ <;> simp only [e0]
  · obtain ⟨d, e1, z⟩ := wq_ex z
    obtain ⟨k, e2, d2, e3, t, e4, z⟩ := wq_ex z
    obtain ⟨δ2, e5, z⟩ := put_go e4 z
    simp only [e1, e2, e3, e5]
    exact z
  · exact z
theorem ws_setP (z : We (g δ) (fun w δ' => Wq (eP i π δ') fun x => Is x T.lst fun us => Wq (u δ') fun k => Is k T.int fun n => So (setAt us n w) fun us' => At δ' i fun t => So (setP t π (.lst us')) fun t2 => Nm (δ'.set i (some t2)) N) E) : Ws (sSetP i π u g δ) N B C R E := by
  unfold sSetP
  rcases we_c z with ⟨w, d0, e0, z⟩ | ⟨t0, d0, e0, z⟩ <;> simp only [e0]
  · obtain ⟨_, e1, us, rfl, z⟩ := wq_ex z
    obtain ⟨_, e2, n, rfl, us', e3, t, e4, z⟩ := wq_ex z
    obtain ⟨δ2, e5, z⟩ := put_go e4 z
    simp only [e1, e2, e3, e5]
    exact z
  · exact z
theorem we_meth {ps : List Sh} {Ff : List T → Fo} (e : dAt δ i = some (.ins cl fs ts)) (hm : m ∉ fs) (z : We (fCall ps Ff (.var i :: os) δ) Q E) : We (fMeth cl m ps Ff i os δ) Q E := by
  unfold fMeth
  rw [e]
  simp only [hm, not_false_eq_true, and_self, if_true]
  exact z
theorem we_methF {ps : List Sh} {Ff : List T → Fo} (z : Wq (u δ) fun t => ∃ fs ts, t = .ins cl fs ts ∧ m ∉ fs ∧ We (fCall ps Ff (.val (qE u) :: os) δ) Q E) : We (fMethF cl m ps Ff u os δ) Q E := by
  unfold fMethF
  obtain ⟨t, e1, fs, ts, rfl, hm, z⟩ := wq_ex z
  rw [e1]
  simp only [hm, not_false_eq_true, and_self, if_true]
  exact z
theorem we_make {Ff : List T → Fo} (z : Wa os δ (fun us δ' => Wf (Ff (.ins cl [] [] :: us)) (fun t l => t = .non ∧ ∃ o r, l = o :: r ∧ Q o δ') fun e _ => E e δ') E) : We (fMake cl Ff os δ) Q E := by
  unfold fMake
  rcases wa_c z with ⟨l0, d0, ts0, e1, e2, z⟩ | ⟨t0, d0, e1, z⟩
  · simp only [e1, e2]
    rcases wf_or z with ⟨t, l, e3, rfl, o, r, rfl, z⟩ | ⟨t, l, e3, z⟩
    · simp only [e3]; exact z
    · simp only [e3]; exact z
  · simp only [e1]; exact z
end
end NQ
namespace NQ
open PySem L2
/-! ### {}; what += does -/
def fNewK : Dl → Rs := fun δ => some (.ok (.dic [] []), δ)
def fNewT : Dl → Rs := fun δ => some (.ok (.dit [] []), δ)
section
variable {X : Cx} {K : PySem.W.Frag} {sh : Nat → Sh} {Wx : WX} {pos : Pos}
end
section
variable {δ : Dl} {Q : T → Dl → Prop} {E : Xn → Dl → Prop}
theorem we_newK (z : Q (.dic [] []) δ) : We (fNewK δ) Q E := z
theorem we_newT (z : Q (.dit [] []) δ) : We (fNewT δ) Q E := z
end
/-! ### a comprehension whose items are new things of one's own -/
end NQ
namespace NQ
open PySem L2
/-! ### [] of any shape -/
section
variable {X : Cx} {K : PySem.W.Frag} {sh : Nat → Sh} {Wx : WX} {pos : Pos}
end
end NQ
namespace L2
open PySem PySem.Spec PyProof.Rows
section
variable {X : Cx}
end
end L2
namespace NQ
open PySem L2
/-! ### dict(d) -/
section
variable {X : Cx} {K : PySem.W.Frag} {a : Expr} {pos p : Pos}
end
end NQ
namespace NQ
open PySem L2
/-! ### a class called by a local name (cls in a classmethod) -/
section
variable {K : PySem.W.Frag} {sh : Nat → Sh} {W : Addr → Prop} {Y N : List Addr} {Fm : Nat → List Addr} {H H' : Hp} {σ : L2.St} {δ : Dl}
variable {X : Cx} {K : PySem.W.Frag} {sh : Nat → Sh} {Wx : WX} {ps : List Sh} {F : List T → Fo} {os : List Opd} {k : Nat} {cl : Str} {e : Expr} {es : List Expr} {params : List Str} {p pos : Pos} {d : List (Str × Sh)}
end
end NQ
namespace NQ
open PySem L2
/-! ### classmethods -/
def fCM (cl : Str) (ps : List Sh) (F : List T → Fo) (q : Qf) (os : List Opd) : Dl → Rs := fun δ => match q δ with
  | some (.gl x) => if x = cl then fCall ps F (.val (qE q) :: os) δ else none
  | _ => none
section
variable {X : Cx} {K : PySem.W.Frag} {sh : Nat → Sh} {Wx : WX} {ps : List Sh} {rs : Sh} {F : List T → Fo} {os : List Opd} {k i : Nat} {cl m : Str} {o e : Expr} {es : List Expr} {params : List Str} {p pos apos : Pos} {q : Qf} {d : List (Str × Sh)}
end
section
variable {X : Cx} {K : PySem.W.Frag} {sh : Nat → Sh} {Wx : WX} {ps : List Sh} {F : List T → Fo} {os : List Opd} {k : Nat} {cl m : Str} {o e : Expr} {es : List Expr} {params : List Str} {apos pos : Pos} {q : Qf}
end
end NQ
namespace NQ
open PySem L2
/-! ### a part of what is one's own gets a name of its own for a while -/
section
variable {K : PySem.W.Frag} {G : Addr → Prop} {H : Hp}
end
/-! ### the part is taken out, and put back -/
section
variable {K : PySem.W.Frag} {sh : Nat → Sh} {W : Addr → Prop} {X X' Y : List Addr} {Fm : Nat → List Addr} {H : Hp} {σ : L2.St} {δ : Dl} {i : Nat} {π : List Pt} {t t' : T} {s' : Sh}
/-- the footprints without that of the slot i -/
def Fx (Fm : Nat → List Addr) (i : Nat) : Nat → List Addr := fun j => if j = i then [] else Fm j
end
/-! ### places told by the state -/
abbrev Pf := Dl → Option (List Pt)
def pNil : Pf := fun _ => some []
def pFld (πf : Pf) (c f : Str) : Pf := fun δ => match πf δ with
  | some π => some (π ++ [.fld c f])
  | none => none
def pIx (πf : Pf) (q : Qf) : Pf := fun δ => match πf δ, q δ with
  | some π, some (.int n) => some (π ++ [.ix n])
  | _, _ => none
def ShF (s0 : Sh) (πf : Pf) (s : Sh) : Prop := ∀ δ π, πf δ = some π → shP s0 π = some s
theorem shP_app : ∀ {π ρ : List Pt} {s u : Sh}, shP s π = some u → shP s (π ++ ρ) = shP u ρ
  | [], ρ, s, u, h => by
    have : s = u := by cases s <;> exact Option.some.inj h
    rw [this]; rfl
  | .fld c f :: π, ρ, .flds d, u, h => by
    show shP ((d.lookup f).getD .fz) (π ++ ρ) = _
    exact shP_app (π := π) h
  | .ix n :: π, ρ, .all s, u, h => by
    show shP s (π ++ ρ) = _
    exact shP_app (π := π) h
  | .fld c f :: π, ρ, .fz, _, h => by cases h
  | .fld c f :: π, ρ, .vw, _, h => by cases h
  | .fld c f :: π, ρ, .xc _ _ _ _, _, h => by cases h
  | .fld c f :: π, ρ, .all _, _, h => by cases h
  | .fld c f :: π, ρ, .row _, _, h => by cases h
  | .fld c f :: π, ρ, .opt _, _, h => by cases h
  | .ix n :: π, ρ, .fz, _, h => by cases h
  | .ix n :: π, ρ, .vw, _, h => by cases h
  | .ix n :: π, ρ, .xc _ _ _ _, _, h => by cases h
  | .ix n :: π, ρ, .flds _, _, h => by cases h
  | .ix n :: π, ρ, .row _, _, h => by cases h
  | .ix n :: π, ρ, .opt _, _, h => by cases h
theorem ShF.nil {s : Sh} : ShF s pNil s := fun δ π h => by cases h; cases s <;> rfl
theorem ShF.fld {s0 : Sh} {πf : Pf} {d : List (Str × Sh)} {c f : Str} (h : ShF s0 πf (.flds d)) : ShF s0 (pFld πf c f) ((d.lookup f).getD .fz) := fun δ π e => by
  unfold pFld at e
  split at e
  · rename_i p q
    cases e
    rw [shP_app (h δ p q)]
    show shP ((d.lookup f).getD .fz) [] = _
    cases (d.lookup f).getD .fz <;> rfl
  · cases e
theorem ShF.ix {s0 s : Sh} {πf : Pf} {q : Qf} (h : ShF s0 πf (.all s)) : ShF s0 (pIx πf q) s := fun δ π e => by
  unfold pIx at e
  split at e
  · rename_i p n q1 q2
    cases e
    rw [shP_app (h δ p q1)]
    show shP s [] = _
    cases s <;> rfl
  · cases e
def ePq (i : Nat) (πf : Pf) : Qf := fun δ => match πf δ, dAt δ i with
  | some π, some t => getP t π
  | _, _ => none
section
variable {X : Cx} {K : PySem.W.Frag} {sh : Nat → Sh} {e o k : Expr} {i : Nat} {πf : Pf} {pos : Pos} {s s' : Sh} {q : Qf}
end
/-! ### blocks in parts -/
end NQ
namespace NQ
open PySem L2
/-! ### x = a part of what is one's own: the part is x's to the end of the block -/
def sBor (i j : Nat) (πf : Pf) (G : Sf) : Sf := fun δ => match πf δ, dAt δ i with
  | some π, some t => match getP t π with
    | some t' => match G ((δ.set i none).set j (some t')) with
      | some (fl, δ') => match dAt δ' j with
        | some w => match setP t π w with
          | some t2 => if i < δ'.length ∧ j < δ.length then some (fl, (δ'.set j none).set i (some t2)) else none
          | none => none
        | none => none
      | none => none
    | none => none
  | _, _ => none
section
variable {X : Cx} {K : PySem.W.Frag} {c : Cf} {Wx : WX} {rest : List Stmt} {G : Sf} {e : Expr} {pos : Pos} {i j : Nat} {πf : Pf}
end
end NQ
namespace NL
open PySem L2
/-! ### an own class made: defaults and keywords -/
structure MkN (P : Program) (w : World) (K : PySem.W.Frag) (mg : Str → Option Value) (base : Heap) (k : Nat) (x : Str) (C : Addr) (ps : List Str) (n : Nat) (ks : List Str) (gV : List V → List V → List V) (sp : Sp) : Prop where
  g : mg x = some (.ref C)
  fn : ∃ (f : Addr) (fd : FuncData) (gg : List Value → List Value → List Value), Mk K C f ∧ KBn K fd ps (n + 1) ks gg gV ∧ FnOk P w K mg base (L2.CX P w) k f fd ps sp
section
variable {X : Cx} {k n : Nat} {x : Str} {C : Addr} {e : Expr} {es : List Expr} {kws : List Keyword} {t tk : TA} {p pos : Pos} {ps ks : List Str} {sp : Sp} {W : WX} {gV : List V → List V → List V}
end
end NL
namespace NQ
open PySem L2
def fMakeK (cl : Str) (F : List T → Fo) (gT : List T → List T) (os : List Opd) : Dl → Rs := fun δ => match runs os δ with
  | none => none
  | some (.error e, δ') => some (.error e, δ')
  | some (.ok l, δ') => match res l δ' with
    | none => none
    | some ts => match F (.ins cl [] [] :: gT ts) with
      | some (.ret .non, o :: _) => some (.ok o, δ')
      | some (.exc e, _) => some (.error e, δ')
      | _ => none
theorem TOs_app {K : PySem.W.Frag} {sh : Nat → Sh} {Wx : WX} {σ : L2.St} : ∀ {os os2 : List Opd} {H : Hp} {Q : List V → Hp → Prop}, TOs K sh Wx (os ++ os2) σ H Q → TOs K sh Wx os σ H fun vs H1 => TOs K sh Wx os2 σ H1 fun zs H2 => vs.length = os.length ∧ Q (vs ++ zs) H2
  | [], os2, H, Q, h => by
    show TOs K sh Wx os2 σ H _
    exact TOs.mono' (fun zs H2 q => ⟨rfl, q⟩) h
  | o :: os, os2, H, Q, h => by
    show TO K sh Wx o σ H fun y H2 => _
    refine TO.mono σ H _ _ (fun x H' q => ?_) h
    have := TOs_app (os := os) (os2 := os2) q
    refine TOs.mono' (fun vs H1 q => ?_) this
    refine TOs.mono' (fun zs H2 q => ?_) q
    exact ⟨congrArg Nat.succ q.1, q.2⟩
where
  TOs.mono' {K : PySem.W.Frag} {sh : Nat → Sh} {Wx : WX} {σ : L2.St} : ∀ {os : List Opd} {H : Hp} {Q Q' : List V → Hp → Prop}, (∀ vs H', Q vs H' → Q' vs H') → TOs K sh Wx os σ H Q → TOs K sh Wx os σ H Q'
    | [], H, Q, Q', i, h => i _ _ h
    | o :: os, H, Q, Q', i, h => by
      show TO K sh Wx o σ H fun y H2 => _
      refine TO.mono σ H _ _ (fun x H' q => ?_) h
      exact TOs.mono' (os := os) (fun vs H1 q => i _ _ q) q
theorem TOs.mono' {K : PySem.W.Frag} {sh : Nat → Sh} {Wx : WX} {σ : L2.St} {os : List Opd} {H : Hp} {Q Q' : List V → Hp → Prop} (i : ∀ vs H', Q vs H' → Q' vs H') (h : TOs K sh Wx os σ H Q) : TOs K sh Wx os σ H Q' := TOs_app.TOs.mono' i h
section
variable {K : PySem.W.Frag} {sh : Nat → Sh} {Wx : WX} {ps : List Sh} {F : List T → Fo} {cl : Str} {d : List (Str × Sh)} {σ : L2.St} {Q : VK} {W : Addr → Prop} {Y : List Addr} {Fm1 : Nat → List Addr} {H1 : Hp} {δ' : Dl}
end
section
variable {X : Cx} {K : PySem.W.Frag} {sh : Nat → Sh} {Wx : WX} {ps : List Sh} {F : List T → Fo} {os os2 : List Opd} {k n : Nat} {cl : Str} {e : Expr} {es : List Expr} {params ks : List Str} {p pos : Pos} {d : List (Str × Sh)} {gV : List V → List V → List V} {gT : List T → List T} {kws : List Keyword}
end
end NQ
namespace PySem
open Sem (wp)
/-! ### enumerate(v), v told by how it begins -/
section
variable {prog : Program} {w : World} {A : Around} {E : Value → Shared → Prop} {s : Shared}
end
end PySem
namespace NL
open PySem PySem.Spec PyProof.Rows L2
end NL
namespace NQ
open PySem L2
/-! ### enumerate of a list or tuple; zip of two lists, of two tuples -/
section
variable {K : PySem.W.Frag} {G : Addr → Prop} {H : Hp} {a b : Addr} {vs ws : List V} {ts us : List T}
def zpT (ts us : List T) : List T := List.zipWith (fun x y => T.tup [x, y]) ts us
end
section
variable {X : Cx} {K : PySem.W.Frag} {sh : Nat → Sh} {Wx : WX} {tg e e2 : Expr} {es : List Expr} {pos p : Pos}
def itEn2 (f : Dl → Rs) : Il := fun δ => match f δ with
  | some (.ok (.lst ts), δ') => some (.ok (enT ts), δ')
  | some (.ok (.tup ts), δ') => some (.ok (enT ts), δ')
  | some (.ok (.ctup ts), δ') => some (.ok (enT ts), δ')
  | some (.error e, δ') => some (.error e, δ')
  | _ => none
def zipT : T → T → Option (List T)
  | .lst ts, .lst us => some (zpT ts us)
  | .tup ts, .tup us => some (zpT ts us)
  | _, _ => none
def itZ (f g : Dl → Rs) : Il := fun δ => match f δ with
  | none => none
  | some (.error e, δ') => some (.error e, δ')
  | some (.ok t, δ1) => match g δ1 with
    | none => none
    | some (.error e, δ') => some (.error e, δ')
    | some (.ok u, δ') => match zipT t u with
      | some ts => some (.ok ts, δ')
      | none => none
end
end NQ
namespace NL
open PySem PySem.Spec PyProof.Rows L2
/-! ### an own class's special methods: o[i], o[i] = e, a | b, a == b -/
section
variable {X : Cx} {k : Nat} {C : Addr} {o i e a b : Expr} {to ti ta tb : TE} {pos : Pos} {ps : List Str} {sp : Sp} {W : WX}
/-- the object an address stands for -/
theorem inst_of {pins : List (Addr × Obj)} {σ : L2.St} {H : Hp} {s : Shared} {x dx : Addr} {fs : List (Str × V)} (I : Inv X pins σ H s) (ea : H x = some (.ins C dx fs)) : ∃ od, PySem.W.InstAt s.heap x (PySem.W.instObj C dx) C (some od) := by
  obtain ⟨mA, O, _⟩ := ins_get I.hok ea
  obtain ⟨od, J, _⟩ := O.look
  exact ⟨od, J⟩
end
end NL
namespace NQ
open PySem L2
/-! ### special methods of own classes -/
/-- the operands at the places js are objects of the class cl -/
def insAt (cl : Str) : List Nat → List T → Bool
  | [], _ => true
  | j :: js, ts => (match ts[j]? with
    | some (.ins c _ _) => decide (c = cl)
    | _ => false) && insAt cl js ts
def fSp (cl : Str) (js : List Nat) (ps : List Sh) (F : List T → Fo) (os : List Opd) : Dl → Rs := fun δ => match runs os δ with
  | none => none
  | some (.error e, δ') => some (.error e, δ')
  | some (.ok l, δ') => match res l δ' with
    | none => none
    | some ts => if insAt cl js ts = true then (match F ts with
      | none => none
      | some (.ret t, ts') => if ts'.length = ps.length then some (.ok t, wb ps (skO os) ts' δ') else none
      | some (.exc e, ts') => if ts'.length = ps.length then some (.error e, wb ps (skO os) ts' δ') else none) else none
section
variable {X : Cx} {K : PySem.W.Frag} {sh : Nat → Sh} {Wx : WX} {ps : List Sh} {rs : Sh} {F : List T → Fo} {os : List Opd} {cl : Str} {js : List Nat}
end
section
variable {X : Cx} {K : PySem.W.Frag} {sh : Nat → Sh} {Wx : WX} {ps : List Sh} {rs : Sh} {F : List T → Fo} {o1 o2 : Opd} {cl : Str} {k : Nat} {o i a b e : Expr} {params : List Str} {pos : Pos}
end
/-! ### o[i] = e, o one's own object -/
def sSetO (cl : Str) (ps : List Sh) (F : List T → Fo) (i : Nat) (q : Qf) (f : Dl → Rs) : Sf := fun δ => match f δ with
  | none => none
  | some (.error e, δ') => some (.exc e, δ')
  | some (.ok t, δ1) => match dAt δ1 i, q δ1 with
    | some (.ins c fs us), some k => if c = cl then (match F [.ins c fs us, k, t] with
      | some (.ret r, o' :: ts') => if (o' :: ts').length = ps.length then some (.nx, δ1.set i (some o')) else none
      | some (.exc e, o' :: ts') => if (o' :: ts').length = ps.length then some (.exc e, δ1.set i (some o')) else none
      | _ => none) else none
    | _, _ => none
section
variable {X : Cx} {K : PySem.W.Frag} {c : Cf} {Wx : WX} {d : List (Str × Sh)} {F : List T → Fo} {cl : Str} {k i : Nat} {o ix e : Expr} {params : List Str} {pos p2 : Pos} {q : Qf} {f : Dl → Rs}
end
end NQ
namespace NQ
open PySem L2
/-! ### not a, as a value -/
def notV (u : Qf) : Qf := fun δ => match u δ with
  | some t => match truW t with
    | some b => some (.bl (!b))
    | none => none
  | none => none
def notW (f : Dl → Rs) : Dl → Rs := fun δ => match f δ with
  | none => none
  | some (.error e, δ') => some (.error e, δ')
  | some (.ok t, δ') => match truW t with
    | some b => some (.ok (.bl (!b)), δ')
    | none => none
section
variable {X : Cx} {K : PySem.W.Frag} {sh : Nat → Sh} {Wx : WX} {a b c e : Expr} {pos p p2 : Pos} {u : Qf} {f g : Dl → Rs} {m m3 : Md} {h : Qf} {o o' : CmpOp} {op op' : Op}
/-! ### tuple(range(..)), list(range(..)) -/
def rgT (a b : Int) : List T := (List.range (b - a).toNat).map fun i => T.int (a + (i : Nat))
def tupRg (f : Dl → Rs) : Dl → Rs := fun δ => match f δ with
  | some (.ok (.int n), δ') => if 0 ≤ n ∧ n ≤ 16777216 then some (.ok (.tup (rgT 0 n)), δ') else none
  | some (.error e, δ') => some (.error e, δ')
  | _ => none
def lstRg (f : Dl → Rs) : Dl → Rs := fun δ => match f δ with
  | some (.ok (.int n), δ') => if 0 ≤ n ∧ n ≤ 16777216 then some (.ok (.lst (rgT 0 n)), δ') else none
  | some (.error e, δ') => some (.error e, δ')
  | _ => none
/-! ### C.NAME, a constant tuple of a class -/
structure CNm (K : PySem.W.Frag) (C : Str) (f : Str) (ts : List T) : Prop where
  cr : ClX.CRead K (He.ga K C) (.type "type")
  cv : ∃ a : Addr, ClX.CVal K (He.ga K C) (.type "type") f (.ref a) (.ref a) ∧ ∀ H : Hp, SqT K H a (ts.map T.sv)
/-! ### a < b < c, the first two no mere readings -/
def chE (op op' : Op) (f g : Dl → Rs) (h : Qf) : Dl → Rs := fun δ => match f δ with
  | none => none
  | some (.error e, δ') => some (.error e, δ')
  | some (.ok x, δ1) => match g δ1 with
    | none => none
    | some (.error e, δ') => some (.error e, δ')
    | some (.ok y, δ2) => match op [x, y] with
      | some (.bl true) => match h δ2 with
        | some z => match op' [y, z] with
          | some r => some (.ok r, δ2)
          | none => none
        | none => none
      | some (.bl false) => some (.ok (.bl false), δ2)
      | _ => none
end
end NQ
namespace NL
open PySem L2
/-! ### more facts of the written part: class constants, what a class is not -/
inductive Fz where
  | cnm (x f : Str) (vs : List He.Dv)
  | nsq (x : Str)
  | slf (x : Str)
def cnmB (K : PySem.W.Frag) (C : Addr) (f : Str) (vs : List He.Dv) : Bool := match PySem.W.findCls K (.ref C) (.type "type") f with
  | some (.val (.ref a)) => (match K.lookup a with
    | some ⟨.type c, _, .seq its _, _⟩ => decide (c = "tuple") && (decide (its.size ≤ sizeLine) && He.relAll (vs.map (He.Dv.v K)) its.toList)
    | _ => false)
  | _ => false
def Fz.ok (K : PySem.W.Frag) : Fz → Bool
  | .cnm x f vs => PySem.W.readsIn K (He.ga K x) (.type "type") && cnmB K (He.ga K x) f vs
  | .nsq x => PySem.W.noSeq K (He.ga K x)
  | .slf x => PySem.W.selfFirst K (He.ga K x)
def fzB (l : List Fz) (K : PySem.W.Frag) : Bool := l.all fun f => f.ok K
end NL
namespace NQ
open PySem L2
/-! ### comprehensions whose items are things of one's own -/
section
variable {X : Cx} {K : PySem.W.Frag} {c : Cf} {Wx : WX} {its : Il} {g : Gf} {cnd : Dl → Rb} {el : Dl → Rs} {vs ns : List Nat} {σ : L2.St} {H : Hp} {Q : VK} {s : Sh}
variable {elt tg iter : Expr} {ifs : List Expr} {scope : Scope} {own : List (Str × Nat)} {pos : Pos}
variable {y : Str} {py spos : Pos}
end
end NQ
namespace NQ
open PySem L2
/-! ### a, b = e1, e2 of plain locals -/
def sPar2 (i j : Nat) (f g : Dl → Rs) : Sf := fun δ => match f δ with
  | none => none
  | some (.error e, δ') => some (.exc e, δ')
  | some (.ok t, δ1) => match g δ1 with
    | none => none
    | some (.error e, δ') => some (.exc e, δ')
    | some (.ok u, δ2) => if i < δ2.length ∧ j < δ2.length then some (.nx, (δ2.set i (some t)).set j (some u)) else none
section
variable {X : Cx} {K : PySem.W.Frag} {c : Cf} {sh : Nat → Sh} {Wx : WX} {f g : Dl → Rs} {a b e : Expr}
theorem Ke.held {W : Addr → Prop} {F Y : List Addr} {Fm : Nat → List Addr} {σ : L2.St} {H : Hp} {e : Xn} {δ' : Dl} (h : Ke K sh Wx W Y Fm σ H e δ') : Ke K sh Wx W (F ++ Y) Fm σ H e δ' := fun d v H' Fm' f' x' q dv =>
  h d v H' Fm' f'.let x' ⟨fun z => q.1 (z.imp (fun z => z.imp (fun w => List.mem_append_right _ w) id) id), q.2⟩ (dv.weak fun a z => z.imp (fun z => z.imp (fun w => List.mem_append_right _ w) id) id)
end
end NQ
namespace NL
open PySem PySem.Spec PyProof.Rows L2
/-! ### the keys of a dict that is locked as soon as it is told, and let go behind the statement -/
def NoF (X : Cx) (d : Addr) : Prop := ∀ o' u', X.H_0 d ≠ some (.frz o' u')
section
variable {X : Cx} {tg e : Expr} {td : TE}
end
end NL
namespace NQ
open PySem L2
/-! ### a frozen dict is locked, or let go: what the frame tells stays -/
def Du (u : HO) : Prop := (∃ kvs, u = .dK kvs) ∨ ∃ kvs, u = .dT kvs
def Lk (d : Addr) (H H' : Hp) : Prop := (∀ b, b ≠ d → H' b = H b) ∧ ∃ o u, Du u ∧ ((H d = some u ∧ H' d = some (.frz o u)) ∨ (H d = some (.frz o u) ∧ H' d = some u))
theorem Du.nf {u : HO} (h : Du u) : ∀ o w, u ≠ .frz o w := by rcases h with ⟨_, rfl⟩ | ⟨_, rfl⟩ <;> exact fun _ _ z => nomatch z
theorem Du.nt {u : HO} (h : Du u) : ∀ xs, u ≠ .tup xs := by rcases h with ⟨_, rfl⟩ | ⟨_, rfl⟩ <;> exact fun _ z => nomatch z
theorem Du.ni {u : HO} (h : Du u) : ∀ a b c, u ≠ .ins a b c := by rcases h with ⟨_, rfl⟩ | ⟨_, rfl⟩ <;> exact fun _ _ _ z => nomatch z
theorem Du.nx {u : HO} (h : Du u) : ∀ a, u ≠ .xd a := by rcases h with ⟨_, rfl⟩ | ⟨_, rfl⟩ <;> exact fun _ z => nomatch z
section
variable {d a : Addr} {H H' H1 : Hp} {u w : HO} {o : Obj} {K : PySem.W.Frag} {G : Addr → Prop}
theorem lk_lock (e : H d = some u) (h : Du u) : Lk d H (upd H d (.frz o u)) := ⟨fun b n => upd_ne n, o, u, h, .inl ⟨e, upd_same⟩⟩
theorem lk_unl (e : H d = some (.frz o u)) (h : Du u) : Lk d H (upd H d u) := ⟨fun b n => upd_ne n, o, u, h, .inr ⟨e, upd_same⟩⟩
theorem Lk.rd (l : Lk d H H') (n : ∀ o v, w ≠ .frz o v) (h : Rd H a w) : Rd H' a w := by
  by_cases z : a = d
  · subst z
    obtain ⟨_, o, u, du, ⟨e1, e2⟩ | ⟨e1, e2⟩⟩ := l
    · rcases h with h | ⟨o', h⟩ <;> rw [e1] at h
      · cases h; exact .inr ⟨o, e2⟩
      · exact absurd (Option.some.inj h) (du.nf _ _)
    · rcases h with h | ⟨o', h⟩ <;> rw [e1] at h
      · exact absurd (Option.some.inj h).symm (n _ _)
      · cases h; exact .inl e2
  · unfold Rd at h ⊢
    rw [l.1 a z]
    exact h
theorem Lk.alive (l : Lk d H H') : H' d ≠ none ∧ H d ≠ none := by
  obtain ⟨_, o, u, du, ⟨e1, e2⟩ | ⟨e1, e2⟩⟩ := l <;> rw [e1, e2] <;> exact ⟨(fun z => nomatch z), fun z => nomatch z⟩
theorem Lk.keep (l : Lk d H H') (n : ∀ o, H d = some o → o = w → False) (h : H a = some w) : H' a = some w := by
  by_cases z : a = d
  · subst z; exact (n _ h rfl).elim
  · rw [l.1 a z]; exact h
theorem Lk.keepI (l : Lk d H H') (n1 : ∀ u, Du u → u ≠ w) (n2 : ∀ o u, w ≠ .frz o u) (h : H a = some w) : H' a = some w := by
  refine l.keep (fun o e z => ?_) h
  subst z
  obtain ⟨_, o', u, du, ⟨e1, _⟩ | ⟨e1, _⟩⟩ := l <;> rw [e1] at e
  · exact n1 u du (Option.some.inj e)
  · exact n2 _ _ (Option.some.inj e).symm
theorem Lk.nt (l : Lk d H H') (h : NT H a) : NT H' a := by
  by_cases z : a = d
  · subst z
    obtain ⟨_, o, u, du, ⟨e1, e2⟩ | ⟨e1, e2⟩⟩ := l
    · exact .of e2
    · exact .of e2 du.nt
  · exact h.eq (l.1 a z)
theorem Lk.none (l : Lk d H H') : H' a = none ↔ H a = none := by
  by_cases z : a = d
  · subst z
    exact ⟨fun q => absurd q l.alive.1, fun q => absurd q l.alive.2⟩
  · rw [l.1 a z]
theorem CellR.lk {t : T} {vs : List V} (l : Lk d H H') (h : CellR K H a t vs) : CellR K H' a t vs := by
  unfold CellR at h ⊢
  split at h
  · exact l.rd (fun _ _ z => nomatch z) h
  · exact l.keepI (fun u du => du.nt _) (fun _ _ z => nomatch z) h
  · exact ⟨h.1, l.rd (fun _ _ z => nomatch z) h.2⟩
  · exact ⟨h.1, l.rd (fun _ _ z => nomatch z) h.2⟩
  · obtain ⟨h0, dx, h⟩ := h
    exact ⟨h0, dx, l.keepI (fun u du => du.ni _ _ _) (fun _ _ z => nomatch z) h⟩
  · exact h.elim
theorem Cell.lk {t : T} {vs : List V} (l : Lk d H H') (n : a ≠ d) (h : Cell K H a t vs) : Cell K H' a t vs := h.keep fun o e => by rw [l.1 a n]; exact e
mutual
theorem Df.lk (l : Lk d H H') : ∀ {v : V} {t : T}, Df K G H v t → Df K G H' v t
  | _, _, .sc h => .sc h
  | _, _, .nd n c r => .nd n (c.lk l) (DfL.lk l r)
theorem DfL.lk (l : Lk d H H') : ∀ {vs : List V} {ts : List T}, DfL K G H vs ts → DfL K G H' vs ts
  | _, _, .nil => .nil
  | _, _, .cons h r => .cons (Df.lk l h) (DfL.lk l r)
end
mutual
theorem Ow.lk (l : Lk d H H') : ∀ {s : Sh} {F : List Addr} {v : V} {t : T}, d ∉ F → Ow K G H s F v t → Ow K G H' s F v t
  | _, _, _, _, _, .fz h => .fz (h.lk l)
  | _, _, _, _, n, .nd c k r => .nd (c.lk l fun z => n (by rw [z]; exact List.mem_cons_self ..)) k (OwL.lk l (fun z => n (List.mem_cons_of_mem _ z)) r)
  | _, _, _, _, _, .optN => .optN
  | _, _, _, _, n, .optS h => .optS (Ow.lk l n h)
theorem OwL.lk (l : Lk d H H') : ∀ {ss : List Sh} {F : List Addr} {vs : List V} {ts : List T}, d ∉ F → OwL K G H ss F vs ts → OwL K G H' ss F vs ts
  | _, _, _, _, _, .nil => .nil
  | _, _, _, _, n, .cons h r => .cons (Ow.lk l (fun z => n (List.mem_append_left _ z)) h) (OwL.lk l (fun z => n (List.mem_append_right _ z)) r)
end
variable {sh : Nat → Sh} {W : Addr → Prop} {X : List Addr} {Fm Fm' : Nat → List Addr} {σ : L2.St} {δ : Dl} {s : Sh} {F : List Addr} {v : V} {t : T}
theorem Sr.lk (l : Lk d H H') (n : d ∉ F) (h : Sr K X Fm W H s F v t) : Sr K X Fm W H' s F v t := by
  rcases h with (⟨h1, h2, h3⟩ | ⟨h1, a, e, c, f, u, h2, h3, h4, h5, h6⟩) | h
  · exact .inl (.inl ⟨h1, h2, h3.lk l⟩)
  · exact .inl (.inr ⟨h1, a, e, c, f, u, h2, h3, h4, l.keepI (fun u du => du.nx _) (fun _ _ z => nomatch z) h5, h6.lk l⟩)
  · exact .inr (h.lk l n)
theorem Fr.lk (f : Fr K sh W X Fm H σ δ) (l : Lk d H H') (n : ¬ Om Fm d) : Fr K sh W X Fm H' σ δ :=
  ⟨fun i t h => by obtain ⟨v, h1, h2⟩ := f.rel i t h; exact ⟨v, h1, h2.lk l fun z => n ⟨i, z⟩⟩, f.un, f.nd, f.dj, f.dw, fun a z => l.nt (f.wl a z), f.len, f.xn, f.xd, f.xw, fun a z => l.nt (f.xl a z)⟩
/-- from the lock to the end: as if it had not been -/
theorem Xt.lk {U U' : Addr → Prop} (e : H d = some u) (du : Du u) (n : ¬ U d) (x : Xt U U' (upd H d (.frz o u)) H1) : H1 d = some (.frz o u) ∧ Xt U U' H (upd H1 d u) := by
  have h1 : H1 d = some (.frz o u) := x.1.1 d _ n upd_same
  have l1 : Lk d H (upd H d (.frz o u)) := lk_lock e du
  have l2 : Lk d H1 (upd H1 d u) := lk_unl h1 du
  refine ⟨h1, ⟨fun a w nu q => ?_, fun a q => ?_, fun a q => l2.nt (x.1.2.2 a (l1.nt q))⟩, fun a q => (x.2 a q).imp id fun y => l1.none.mp y⟩
  · by_cases z : a = d
    · subst z; rw [upd_same, ← q, e]
    · rw [upd_ne z]
      exact x.1.1 a w nu (by rw [upd_ne z]; exact q)
  · exact fun y => x.1.2.1 a (fun y2 => q (l1.none.mp y2)) (l2.none.mp y)
end
/-! ### for k in d -/
def keyT : Key → T
  | .inl i => .int i
  | .inr s => .str s
def keyOk : Key → Bool
  | .inl _ => true
  | .inr s => PyData.strOk s
def itK : T → Option (List T)
  | .dic ks ts => if ks.length = ts.length ∧ ks.all keyOk = true then some (ks.map keyT) else none
  | .dit ks ts => if ks.length = ts.length ∧ (ks.all fun k => k.all keyOk) = true then some (ks.map fun k => .tup (k.map keyT)) else none
  | _ => none
def noX : Ss → Ss
  | some (.exc _, _) => none
  | r => r
def sForK (f : Dl → Rs) (g : Gf) (b : Sf) : Sf := fun δ => match f δ with
  | none => none
  | some (.error e, δ') => some (.exc e, δ')
  | some (.ok t, δ') => match itK t with
    | some ts => noX (forM ts g b δ')
    | none => none
section
variable {K : PySem.W.Frag} {c : Cf} {Wx : WX} {W : Addr → Prop} {Y : List Addr} {Fm : Nat → List Addr} {H : Hp} {σ : L2.St} {δ : Dl} {g : Gf} {b : Sf} {ns : List Nat} {D : Ends} {J : It} {ts : List T} {d : Addr} {o : Obj} {G : Addr → Prop}
end
section
variable {X : Cx} {K : PySem.W.Frag} {c : Cf} {Wx : WX} {W : Addr → Prop} {Y : List Addr} {Fm : Nat → List Addr} {H : Hp} {σ : L2.St} {δ : Dl} {g : Gf} {b : Sf} {ns : List Nat} {D : Ends} {d : Addr} {u : HO} {o : Obj} {r : Ss} {N : L2.St → Hp → Prop} {δ' : Dl}
theorem Kx.lk (e : H d = some u) (du : Du u) (n : ¬ Om Fm d) (nf : NL.NoF X d) (k : Kx K c W Y Fm σ H δ' N) :
    Kx K c W Y Fm σ (upd H d (.frz o u)) δ' fun σ' H' => N σ' H' ∨ ∃ d od u, H' d = some (.frz od u) ∧ NL.NoF X d ∧ N σ' (upd H' d u) := fun σ' H' Fm' kp fr xt => by
  obtain ⟨h1, x2⟩ := xt.lk e du n
  refine .inr ⟨d, o, u, h1, nf, k σ' _ Fm' kp (fr.lk (lk_unl h1 du) fun z => ?_) x2⟩
  exact (x2.2 d z).elim n fun q => by rw [q] at e; cases e
theorem Df.dic {G : Addr → Prop} {x : V} {ks : List Key} {ts : List T} (h : Df K G H x (.dic ks ts)) : ∃ a vs, x = .ref a ∧ ¬ G a ∧ ks.length = vs.length ∧ Rd H a (.dK (ks.zip vs)) := by
  cases h with
  | sc h => exact h.elim
  | nd n c r => exact ⟨_, _, rfl, n, c.1, c.2⟩
theorem Df.dit {G : Addr → Prop} {x : V} {ks : List (List Key)} {ts : List T} (h : Df K G H x (.dit ks ts)) : ∃ a vs, x = .ref a ∧ ¬ G a ∧ ks.length = vs.length ∧ Rd H a (.dT (ks.zip vs)) := by
  cases h with
  | sc h => exact h.elim
  | nd n c r => exact ⟨_, _, rfl, n, c.1, c.2⟩
variable {tg e : Expr} {f : Dl → Rs} {body : List Stmt} {pos : Pos}
end
end NQ
namespace NQ
open PySem L2
/-! ### x = a part of what is one's own: the part is x's from here on, the rest is let go -/
def sMov (i j : Nat) (πf : Pf) : Sf := fun δ => match πf δ, dAt δ i with
  | some π, some t => match getP t π with
    | some t' => if j < δ.length then some (.nx, (δ.set i none).set j (some t')) else none
    | none => none
  | _, _ => none
section
variable {X : Cx} {K : PySem.W.Frag} {c : Cf} {Wx : WX} {rest : List Stmt} {G : Sf} {e : Expr} {pos : Pos} {i j : Nat} {πf : Pf}
end
/-! ### a list whose items are one's own: new ones, or variables that are given away -/
inductive Oo where
  | new (f : Dl → Rs) | mov (i : Nat)
def runO : List (Sh × Oo) → Dl → Option (Except Xn (List T) × Dl)
  | [], δ => some (.ok [], δ)
  | (_, .new f) :: r, δ => match f δ with
    | none => none
    | some (.error e, δ') => some (.error e, δ')
    | some (.ok t, δ1) => match runO r δ1 with
      | some (.ok ts, δ') => some (.ok (t :: ts), δ')
      | some (.error e, δ') => some (.error e, δ')
      | none => none
  | (_, .mov i) :: r, δ => match dAt δ i with
    | none => none
    | some t => match runO r (δ.set i none) with
      | some (.ok ts, δ') => some (.ok (t :: ts), δ')
      | some (.error e, δ') => some (.error e, δ')
      | none => none
def fLstO (os : List (Sh × Oo)) : Dl → Rs := fun δ => match runO os δ with
  | none => none
  | some (.error e, δ') => some (.error e, δ')
  | some (.ok ts, δ') => if ts.length ≤ sizeLine then some (.ok (.lst ts), δ') else none
section
variable {K : PySem.W.Frag} {sh : Nat → Sh} {Wx : WX} {W : Addr → Prop} {Y F : List Addr} {Fm Fm0 : Nat → List Addr} {H H0 : Hp} {σ : L2.St} {δ δ' : Dl} {e : Xn} {G : Addr → Prop}
theorem OwL.app : ∀ {ss ss' : List Sh} {F F' : List Addr} {vs vs' : List V} {ts ts' : List T}, OwL K G H ss F vs ts → OwL K G H ss' F' vs' ts' → OwL K G H (ss ++ ss') (F ++ F') (vs ++ vs') (ts ++ ts')
  | _, _, _, _, _, _, _, _, .nil, h => h
  | _, _, _, _, _, _, _, _, .cons h r, q => by
    have := OwL.cons h (OwL.app r q)
    rw [← List.append_assoc] at this
    exact this
theorem OwL.len : ∀ {ss : List Sh} {F : List Addr} {vs : List V} {ts : List T}, OwL K G H ss F vs ts → ss.length = ts.length ∧ vs.length = ts.length
  | _, _, _, _, .nil => ⟨rfl, rfl⟩
  | _, _, _, _, .cons _ r => ⟨congrArg Nat.succ r.len.1, congrArg Nat.succ r.len.2⟩
end
section
variable {X : Cx} {K : PySem.W.Frag} {sh : Nat → Sh} {Wx : WX} {es : List Expr} {pos : Pos} {s S : Sh} {os : List (Sh × Oo)}
end
end NQ
namespace PySem
open Sem (wp)
section
variable {prog : Program} {w : World} {K : Type} [DecidableEq K] {knd : KeyKind prog w K} {A : Around} {E : Value → Shared → Prop} {s : Shared}
theorem IsTupleKey.more {h h' : Heap} {ks : List K} {a : Addr} (x : IsTupleKey knd h ks a) (k : ∀ o, h.get? a = some o → h'.get? a = some o) : IsTupleKey knd h' ks a := by
  obtain ⟨o, its, n, h1, r⟩ := x
  exact ⟨o, its, n, k _ h1, r⟩
end
end PySem
namespace L2
open PySem PySem.Spec PyProof.Rows
section
variable {X : Cx}
end
end L2
namespace NQ
open PySem L2
/-! ### dict(d), d's keys tuples of ints whose hashes differ -/
section
variable {X : Cx} {K : PySem.W.Frag} {a : Expr} {pos p : Pos}
end
end NQ
namespace NQ
open PySem L2
/-! ### f(e): e is made for the call alone -/
def fCallT (F : List T → Fo) (f : Dl → Rs) : Dl → Rs := fun δ => match f δ with
  | none => none
  | some (.error e, δ') => some (.error e, δ')
  | some (.ok t, δ') => match F [t] with
    | some (.ret r, _) => some (.ok r, δ')
    | some (.exc e, _) => some (.error e, δ')
    | none => none
section
variable {K : PySem.W.Frag} {sh : Nat → Sh} {W U : Addr → Prop} {Y F1 : List Addr} {Fm Fm1 : Nat → List Addr} {H H' H1 : Hp} {σ : L2.St} {δ : Dl} {s : Sh} {x : V} {t : T}
end
section
variable {X : Cx} {K : PySem.W.Frag} {sh : Nat → Sh} {Wx : WX} {s : Sh} {F : List T → Fo} {f : Dl → Rs} {k : Nat} {x : Str} {e : Expr} {params : List Str} {p pos : Pos}
end
end NQ
namespace NL
open PySem PySem.Spec PyProof.Rows L2
/-! ### several clauses, with or without a name, and an else -/
abbrev Wc := Addr → Value → Option Addr → TS
/-- a clause with a name: the slot i holds the exception while the suite runs -/
def asW (i : Nat) (ts : Wc) : Wc := fun a cls d D σ H => ts a cls d { D with nx := fun τ G => D.nx (τ.set i none) G, bk := fun τ G => D.bk (τ.set i none) G, ct := fun τ G => D.ct (τ.set i none) G } (σ.set i (some (.ref a))) H
inductive HdA (X : Cx) : List ExceptHandler → List (Value × Wc) → Prop
  | nil : HdA X [] []
  | one {x : Str} {c : Value} {ts : Wc} {b₀ : Stmt} {suite : List Stmt} {np q0 : Pos} {hds : List ExceptHandler} {l : List (Value × Wc)} (hc : Names X x c)
      (hsu : ∀ (a : Addr) (o0 : Obj) (cls : Value) (d : Option Addr) (pn : List (Addr × Obj)), Zc cls d o0 → (∃ vs, o0.data = .fields vs) → PSs (X.suite a ((a, o0) :: pn)) (b₀ :: suite) (ts a cls d)) (r : HdA X hds l) :
      HdA X (.ExceptHandler (some (.Name x np)) none (b₀ :: suite) q0 :: hds) ((c, ts) :: l)
  | named {x n : Str} {i : Nat} {c : Value} {ts : Wc} {b₀ : Stmt} {suite : List Stmt} {np q0 : Pos} {hds : List ExceptHandler} {l : List (Value × Wc)} (hc : Names X x c) (hi : X.N[i]? = some n) (hln : X.env.kindOf n = some .local)
      (hsu : ∀ (a : Addr) (o0 : Obj) (cls : Value) (d : Option Addr) (pn : List (Addr × Obj)), Zc cls d o0 → (∃ vs, o0.data = .fields vs) → PSs (X.suite a ((a, o0) :: pn)) (b₀ :: suite) (ts a cls d)) (r : HdA X hds l) :
      HdA X (.ExceptHandler (some (.Name x np)) (some n) (b₀ :: suite) q0 :: hds) ((c, asW i ts) :: l)
section
variable {X : Cx} {body orelse : List Stmt} {h₀ : ExceptHandler} {hds : List ExceptHandler} {l : List (Value × Wc)} {pos : Pos} {tb : WX → TS} {Wout : WX} {u : TS}
end
end NL
namespace NQ
open PySem L2
/-! ### try with several clauses and an else -/
inductive Hx where
  | one (m : List (Str × Bool)) (G : Sf)
  | as (m : List (Str × Bool)) (fl : Str) (i : Nat) (G : Xn → Sf)
def hdM : List Hx → Xn → Dl → Ss
  | [], e, δ => some (.exc e, δ)
  | .one m G :: r, e, δ => match m.lookup e.cls with
    | some true => (match G δ with
      | some (.exc _, _) => none
      | r => r)
    | some false => hdM r e δ
    | none => none
  | .as m fl i G :: r, e, δ => match m.lookup e.cls with
    | some true => if e.fld = fl ∧ i < δ.length then (match G e (δ.set i (some e.val)) with
      | some (.exc _, _) => none
      | some (fl, δ2) => some (fl, δ2.set i none)
      | none => none) else none
    | some false => hdM r e δ
    | none => none
def sTryA (hs : List Hx) (F E : Sf) : Sf := fun δ => match F δ with
  | some (.exc e, δ') => hdM hs e δ'
  | some (.nx, δ') => E δ'
  | r => r
abbrev noWx : WX := fun _ _ _ _ => False
def tsAs (X : Cx) (c : Cf) (fl : Str) (i : Nat) (G : Xn → Sf) : NL.Wc := fun a cls dd => fun D σ H => ∃ (d : Addr) (e : Xn), cls = .ref (He.ga X.K e.cls) ∧ dd = some d ∧ XfC X.K (He.ga X.K e.cls) ∧ PySem.W.findIn X.K (.ref (He.ga X.K e.cls)) fl = some none ∧ SF X.K (c.xcAt i a d e.cls fl) noWx (G e) D σ H
inductive HdQ (X : Cx) (c : Cf) : List ExceptHandler → List (Value × NL.Wc) → List Hx → Prop
  | nil : HdQ X c [] [] []
  | one {x : Str} {cv : Value} {m : List (Str × Bool)} {G : Sf} {b₀ : Stmt} {suite : List Stmt} {np q0 : Pos} {hds : List ExceptHandler} {l : List (Value × NL.Wc)} {hs : List Hx} (hm : ExO X.K cv m) (hc : Names X x cv)
      (hsu : ∀ (a : Addr) (o0 : Obj) (pn : List (Addr × Obj)), PSs (X.suite a ((a, o0) :: pn)) (b₀ :: suite) (SF X.K c noWx G)) (r : HdQ X c hds l hs) :
      HdQ X c (.ExceptHandler (some (.Name x np)) none (b₀ :: suite) q0 :: hds) ((cv, fun _ _ _ => SF X.K c noWx G) :: l) (.one m G :: hs)
  | named {x n : Str} {fl : Str} {i : Nat} {cv : Value} {m : List (Str × Bool)} {G : Xn → Sf} {b₀ : Stmt} {suite : List Stmt} {np q0 : Pos} {hds : List ExceptHandler} {l : List (Value × NL.Wc)} {hs : List Hx} (hm : ExT X.K cv fl m) (hc : Names X x cv) (hi : X.N[i]? = some n) (hln : X.env.kindOf n = some .local)
      (hsu : ∀ (a d : Addr) (o0 : Obj) (e : Xn) (pn : List (Addr × Obj)), Zc (.ref (He.ga X.K e.cls)) (some d) o0 → (∃ vs, o0.data = .fields vs) → XfC X.K (He.ga X.K e.cls) → PySem.W.findIn X.K (.ref (He.ga X.K e.cls)) fl = some none → PSs (X.suite a ((a, o0) :: pn)) (b₀ :: suite) (SF X.K (c.xcAt i a d e.cls fl) noWx (G e)))
      (hsh : c.sh i = .fz) (hp : c.pr i = false) (r : HdQ X c hds l hs) :
      HdQ X c (.ExceptHandler (some (.Name x np)) (some n) (b₀ :: suite) q0 :: hds) ((cv, NL.asW i (tsAs X c fl i G)) :: l) (.as m fl i G :: hs)
section
variable {X : Cx} {c : Cf} {Wx : WX} {hds : List ExceptHandler} {l : List (Value × NL.Wc)} {hs : List Hx} {W : Addr → Prop} {Y : List Addr}
theorem HdQ.a (h : HdQ X c hds l hs) : NL.HdA X hds l := by
  induction h with
  | nil => exact .nil
  | one hm hc hsu r ih => exact .one hc (fun a oe cls dd pn _ _ => hsu a oe pn) ih
  | named hm hc hi hln hsu hsh hp r ih =>
    refine .named hc hi hln (fun a oe cls dd pn hz hv => ⟨fun pins s σ H D I h => ?_⟩) ih
    obtain ⟨d, e, rfl, rfl, h1, h2, h⟩ := h
    exact (hsu a d oe e pn hz hv h1 h2).run pins s σ H D I h
variable {body orelse : List Stmt} {h₀ : ExceptHandler} {pos : Pos} {F E : Sf} {K : PySem.W.Frag}
end
end NQ
namespace NQ
open PySem L2
/-! ### in a clause with a name: isinstance of the caught exception -/
def KtT (K : PySem.W.Frag) (cv : Value) : List (Str × Bool) → Prop
  | [] => True
  | (x, b) :: r => ExcC K (He.ga K x) ∧ PySem.W.kitOne K (.ref (He.ga K x)) cv = some b ∧ KtT K cv r
theorem KtT.at {K : PySem.W.Frag} {cv : Value} : ∀ {l : List (Str × Bool)} {x : Str} {b : Bool}, KtT K cv l → l.lookup x = some b → ExcC K (He.ga K x) ∧ PySem.W.kitOne K (.ref (He.ga K x)) cv = some b
  | [], _, _, _, h => by simp at h
  | (y, d) :: r, x, b, ⟨h1, h2, h3⟩, e => by
    rw [List.lookup_cons] at e
    split at e
    · rename_i q
      cases e
      rw [eq_of_beq q]
      exact ⟨h1, h2⟩
    · exact KtT.at h3 e
def isXq (i : Nat) (mk : List (Str × Bool)) (cl : Str) : Qf := fun δ => match dAt δ i, mk.lookup cl with
  | some _, some b => some (.bl b)
  | _, _ => none
section
variable {X : Cx} {K : PySem.W.Frag} {sh : Nat → Sh} {a d : Addr} {oe : Obj} {pn : List (Addr × Obj)} {cl fl y : Str} {o ce : Expr} {p pos : Pos} {mk : List (Str × Bool)}
end
end NQ
namespace NQ
open PySem L2
/-! ### walking rules of the younger combinators -/
section
variable {F G : Sf} {f g h : Dl → Rs} {u v w : Qf} {δ δ2 : Dl} {i j : Nat} {op op' : Op} {os : List Opd} {x y t : T} {ts us : List T} {gp : Gf} {its : Il} {cl : Str} {πf : Pf}
variable {N B C : Dl → Prop} {R : T → Dl → Prop} {E : Xn → Dl → Prop} {Q : T → Dl → Prop} {q : T → Prop} {QL : List T → Dl → Prop}
theorem ws_par2 (z : We (f δ) (fun t δ1 => We (g δ1) (fun u δ2 => Sd (i < δ2.length ∧ j < δ2.length) (Nm ((δ2.set i (some t)).set j (some u)) N)) E) E) : Ws (sPar2 i j f g δ) N B C R E := by
  unfold sPar2
  rcases we_c z with ⟨t0, d0, e0, z⟩ | ⟨t0, d0, e0, z⟩ <;> simp only [e0]
  rotate_left
  · exact z
  rcases we_c z with ⟨t1, d1, e1, hl, z⟩ | ⟨t1, d1, e1, z⟩ <;> simp only [e1]
  · simp only [hl, and_self, if_true]; exact z
  · exact z
/-- a path and what lies there -/
def Pw (r : Option (List Pt)) (P : List Pt → Prop) : Prop := ∃ π, r = some π ∧ P π
theorem pw_nil {P : List Pt → Prop} (z : P []) : Pw (pNil δ) P := ⟨_, rfl, z⟩
theorem pw_fld {c fl : Str} {P : List Pt → Prop} (z : Pw (πf δ) fun π => P (π ++ [.fld c fl])) : Pw (pFld πf c fl δ) P := by
  obtain ⟨π, e, z⟩ := z
  exact ⟨_, by unfold pFld; rw [e], z⟩
theorem pw_ix {P : List Pt → Prop} (z : Pw (πf δ) fun π => Wq (u δ) fun k => Is k T.int fun n => P (π ++ [.ix n])) : Pw (pIx πf u δ) P := by
  obtain ⟨π, e, z⟩ := z
  obtain ⟨k, e1, n, rfl, z⟩ := wq_ex z
  exact ⟨_, by unfold pIx; rw [e, e1], z⟩
theorem wq_ePq (z : Pw (πf δ) fun π => At δ i fun t => So (getP t π) q) : Wq (ePq i πf δ) q := by
  obtain ⟨π, e, t, e1, u, e2, z⟩ := z
  unfold ePq
  rw [e, e1]
  simp only [e2]
  exact z
theorem ws_mov (z : Pw (πf δ) fun π => At δ i fun t => So (getP t π) fun t' => Sd (j < δ.length) (Nm ((δ.set i none).set j (some t')) N)) : Ws (sMov i j πf δ) N B C R E := by
  obtain ⟨π, e, t, e1, u, e2, hl, z⟩ := z
  unfold sMov
  rw [e, e1]
  simp only [e2, hl, if_true]
  exact z
def Bk (i j : Nat) (n : Nat) (π : List Pt) (t : T) (P : Dl → Prop) : Dl → Prop := fun δ' => At δ' j fun w => So (setP t π w) fun t2 => Sd (i < δ'.length ∧ j < n) (Nm ((δ'.set j none).set i (some t2)) P)
theorem ws_bor (z : Pw (πf δ) fun π => At δ i fun t => So (getP t π) fun t' => Nm ((δ.set i none).set j (some t')) fun δ1 => Ws (G δ1) (Bk i j δ.length π t N) (Bk i j δ.length π t B) (Bk i j δ.length π t C) (fun r => Bk i j δ.length π t (R r)) (fun e => Bk i j δ.length π t (E e))) : Ws (sBor i j πf G δ) N B C R E := by
  obtain ⟨π, e, t, e1, t', e2, z⟩ := z
  unfold Nm at z
  try dsimp only at z
  unfold sBor
  rw [e, e1]
  simp only [e2]
  obtain ⟨fl, δ', e3, z⟩ := ws_c z
  simp only [e3]
  have key : ∀ {P : Dl → Prop}, Bk i j δ.length π t P δ' → ∃ w t2, dAt δ' j = some w ∧ setP t π w = some t2 ∧ (i < δ'.length ∧ j < δ.length) ∧ P ((δ'.set j none).set i (some t2)) := fun ⟨w, a1, t2, a2, a3, a4⟩ => ⟨w, t2, a1, a2, a3, a4⟩
  cases fl with
  | nx => obtain ⟨w, t2, a1, a2, a3, a4⟩ := key z; simp only [a1, a2, a3, and_self, if_true]; exact a4
  | brk => obtain ⟨w, t2, a1, a2, a3, a4⟩ := key z; simp only [a1, a2, a3, and_self, if_true]; exact a4
  | cont => obtain ⟨w, t2, a1, a2, a3, a4⟩ := key z; simp only [a1, a2, a3, and_self, if_true]; exact a4
  | ret r => obtain ⟨w, t2, a1, a2, a3, a4⟩ := key (P := R r) z; simp only [a1, a2, a3, and_self, if_true]; exact a4
  | exc r => obtain ⟨w, t2, a1, a2, a3, a4⟩ := key (P := E r) z; simp only [a1, a2, a3, and_self, if_true]; exact a4
theorem bk_mk {n : Nat} {π : List Pt} {P : Dl → Prop} (z : At δ j fun w => So (setP t π w) fun t2 => Sd (i < δ.length ∧ j < n) (Nm ((δ.set j none).set i (some t2)) P)) : Bk i j n π t P δ := z
def enS : T → Option (List T)
  | .lst ts => some ts
  | .tup ts => some ts
  | .ctup ts => some ts
  | _ => none
theorem wi_en2 (z : We (f δ) (fun t δ' => So (enS t) fun ts => QL (enT ts) δ') E) : Wi (itEn2 f δ) QL E := by
  unfold itEn2
  rcases we_c z with ⟨t0, d0, e0, ts, e1, z⟩ | ⟨t0, d0, e0, z⟩ <;> simp only [e0]
  · cases t0 <;> first | cases e1 | skip
    all_goals exact z
  · exact z
theorem mkn {o : T} {r : List T} {P : T → Prop} (z : P o) : T.non = .non ∧ ∃ o' r', o :: r = o' :: r' ∧ P o' := ⟨rfl, o, r, rfl, z⟩
theorem mthF {m : Str} {fs : List Str} {P : Prop} (hm : m ∉ fs) (z : P) : ∃ fs' ts', T.ins cl fs ts = .ins cl fs' ts' ∧ m ∉ fs' ∧ P := ⟨fs, ts, rfl, hm, z⟩
theorem insAt_c {cl : Str} {j : Nat} {js : List Nat} {ts : List T} {fs : List Str} {us : List T} (h : ts[j]? = some (.ins cl fs us)) (z : insAt cl js ts = true) : insAt cl (j :: js) ts = true := by
  unfold insAt
  rw [h]
  simp only [decide_true, Bool.true_and]
  exact z
theorem wi_z (z : We (f δ) (fun t δ1 => We (g δ1) (fun u δ' => So (zipT t u) fun ts => QL ts δ') E) E) : Wi (itZ f g δ) QL E := by
  unfold itZ
  rcases we_c z with ⟨t0, d0, e0, z⟩ | ⟨t0, d0, e0, z⟩ <;> simp only [e0]
  rotate_left
  · exact z
  rcases we_c z with ⟨t1, d1, e1, ts, e2, z⟩ | ⟨t1, d1, e1, z⟩ <;> simp only [e1]
  · simp only [e2]; exact z
  · exact z
theorem we_sp {js : List Nat} {ps : List Sh} {Ff : List T → Fo} (z : Wa os δ (fun ts δ' => Sd (insAt cl js ts = true) (Wf (Ff ts) (fun t l => Sd (l.length = ps.length) (Nm (wb ps (skO os) l δ') (Q t))) fun e l => Sd (l.length = ps.length) (Nm (wb ps (skO os) l δ') (E e)))) E) : We (fSp cl js ps Ff os δ) Q E := by
  unfold fSp
  rcases wa_c z with ⟨l0, d0, ts0, e1, e2, h, z⟩ | ⟨t0, d0, e1, z⟩
  · simp only [e1, e2, h, if_true]
    rcases wf_or z with ⟨t, l, e3, h, z⟩ | ⟨t, l, e3, h, z⟩
    · simp only [e3, h, if_true]; exact z
    · simp only [e3, h, if_true]; exact z
  · simp only [e1]; exact z
theorem ws_setO {ps : List Sh} {Ff : List T → Fo} (z : We (f δ) (fun t δ1 => At δ1 i fun o => Wq (u δ1) fun k => Sd (∃ fs us, o = .ins cl fs us) (Wf (Ff [o, k, t]) (fun r l => Sd (l.length = ps.length) (So l.head? fun o' => Nm (δ1.set i (some o')) N)) fun e l => Sd (l.length = ps.length) (So l.head? fun o' => Nm (δ1.set i (some o')) (E e)))) E) : Ws (sSetO cl ps Ff i u f δ) N B C R E := by
  unfold sSetO
  rcases we_c z with ⟨t0, d0, e0, o, e1, z⟩ | ⟨t0, d0, e0, z⟩ <;> simp only [e0]
  rotate_left
  · exact z
  obtain ⟨k, e2, ⟨fs, us, rfl⟩, z⟩ := wq_ex z
  simp only [e1, e2, if_true]
  rcases wf_or z with ⟨t, l, e3, hl, o', ho, z⟩ | ⟨t, l, e3, hl, o', ho, z⟩
  · cases l with
    | nil => cases ho
    | cons a r => cases ho; simp only [e3, hl, if_true]; exact z
  · cases l with
    | nil => cases ho
    | cons a r => cases ho; simp only [e3, hl, if_true]; exact z
theorem wq_notV (z : Wq (u δ) fun t => Wt (truW t) fun b => q (.bl (!b))) : Wq (notV u δ) q := by
  unfold notV
  obtain ⟨t, e, z⟩ := wq_ex z
  obtain ⟨b, e1, z⟩ := wt_ex z
  simp only [e, e1]; exact z
theorem we_notW (z : We (f δ) (fun t δ' => Wt (truW t) fun b => Q (.bl (!b)) δ') E) : We (notW f δ) Q E := by
  unfold notW
  rcases we_c z with ⟨t0, d0, e0, z⟩ | ⟨t0, d0, e0, z⟩ <;> simp only [e0]
  · obtain ⟨b, e1, z⟩ := wt_ex z
    simp only [e1]; exact z
  · exact z
theorem we_tupRg (z : We (f δ) (fun t δ' => Is t T.int fun n => Sd (0 ≤ n ∧ n ≤ 16777216) (Q (.tup (rgT 0 n)) δ')) E) : We (tupRg f δ) Q E := by
  unfold tupRg
  rcases we_c z with ⟨t0, d0, e0, z⟩ | ⟨t0, d0, e0, z⟩ <;> simp only [e0]
  · obtain ⟨n, rfl, hl, z⟩ := z
    simp only [hl, and_self, if_true]; exact z
  · exact z
theorem we_lstRg (z : We (f δ) (fun t δ' => Is t T.int fun n => Sd (0 ≤ n ∧ n ≤ 16777216) (Q (.lst (rgT 0 n)) δ')) E) : We (lstRg f δ) Q E := by
  unfold lstRg
  rcases we_c z with ⟨t0, d0, e0, z⟩ | ⟨t0, d0, e0, z⟩ <;> simp only [e0]
  · obtain ⟨n, rfl, hl, z⟩ := z
    simp only [hl, and_self, if_true]; exact z
  · exact z
theorem we_ch (z : We (f δ) (fun x δ1 => We (g δ1) (fun y δ2 => Wq (op [x, y]) fun c => Is c T.bl fun k => if k = true then Wq (w δ2) (fun z => Wq (op' [y, z]) fun r => Q r δ2) else Q (.bl false) δ2) E) E) : We (chE op op' f g w δ) Q E := by
  unfold chE
  rcases we_c z with ⟨t0, d0, e0, z⟩ | ⟨t0, d0, e0, z⟩ <;> simp only [e0]
  rotate_left
  · exact z
  rcases we_c z with ⟨t1, d1, e1, z⟩ | ⟨t1, d1, e1, z⟩ <;> simp only [e1]
  rotate_left
  · exact z
  obtain ⟨c, e2, k, rfl, z⟩ := wq_ex z
  simp only [e2]
  cases k
  · exact z
  · rw [if_pos rfl] at z
    obtain ⟨a, e3, z⟩ := wq_ex z
    obtain ⟨r, e4, z⟩ := wq_ex z
    simp only [e3, e4]; exact z
theorem we_makeK {Ff : List T → Fo} {gT : List T → List T} (z : Wa os δ (fun us δ' => Wf (Ff (.ins cl [] [] :: gT us)) (fun t l => t = .non ∧ ∃ o r, l = o :: r ∧ Q o δ') fun e _ => E e δ') E) : We (fMakeK cl Ff gT os δ) Q E := by
  unfold fMakeK
  rcases wa_c z with ⟨l0, d0, ts0, e1, e2, z⟩ | ⟨t0, d0, e1, z⟩
  · simp only [e1, e2]
    rcases wf_or z with ⟨t, l, e3, rfl, o, r, rfl, z⟩ | ⟨t, l, e3, z⟩
    · simp only [e3]; exact z
    · simp only [e3]; exact z
  · simp only [e1]; exact z
theorem we_cm {ps : List Sh} {Ff : List T → Fo} (z : Wq (u δ) fun t => Sd (t = .gl cl) (We (fCall ps Ff (.val (qE u) :: os) δ) Q E)) : We (fCM cl ps Ff u os δ) Q E := by
  unfold fCM
  obtain ⟨t, e, rfl, z⟩ := wq_ex z
  simp only [e, if_true]; exact z
theorem ws_forK (z : We (f δ) (fun t δ' => So (itK t) fun ts => Ws (forM ts gp F δ') N B C R fun _ _ => False) E) : Ws (sForK f gp F δ) N B C R E := by
  unfold sForK
  rcases we_c z with ⟨t0, d0, e0, ts, e1, z⟩ | ⟨t0, d0, e0, z⟩ <;> simp only [e0]
  rotate_left
  · exact z
  simp only [e1]
  obtain ⟨fl, δ', e2, z⟩ := ws_c z
  rw [e2]
  cases fl <;> first | exact z | exact z.elim
def Wo (os : List (Sh × Oo)) (δ : Dl) (QL : List T → Dl → Prop) (E : Xn → Dl → Prop) : Prop := Wi (runO os δ) QL E
theorem wo_nil (z : QL [] δ) : Wo [] δ QL E := z
theorem wo_new {s : Sh} {r : List (Sh × Oo)} (z : We (f δ) (fun t δ1 => Wo r δ1 (fun ts δ' => QL (t :: ts) δ') E) E) : Wo ((s, .new f) :: r) δ QL E := by
  unfold Wo runO
  rcases we_c z with ⟨t0, d0, e0, z⟩ | ⟨t0, d0, e0, z⟩ <;> simp only [e0]
  rotate_left
  · exact z
  rcases wi_c z with ⟨t1, d1, e1, z⟩ | ⟨t1, d1, e1, z⟩ <;> simp only [e1] <;> exact z
theorem wo_mov {s : Sh} {r : List (Sh × Oo)} (e : dAt δ i = some x) (z : Nm (δ.set i none) fun δ1 => Wo r δ1 (fun ts δ' => QL (x :: ts) δ') E) : Wo ((s, .mov i) :: r) δ QL E := by
  unfold Nm at z
  try dsimp only at z
  unfold Wo runO
  simp only [e]
  rcases wi_c z with ⟨t1, d1, e1, z⟩ | ⟨t1, d1, e1, z⟩ <;> simp only [e1] <;> exact z
theorem we_lstO {os : List (Sh × Oo)} (z : Wo os δ (fun ts δ' => Sd (ts.length ≤ 16777216) (Q (.lst ts) δ')) E) : We (fLstO os δ) Q E := by
  unfold fLstO
  rcases wi_c z with ⟨t1, d1, e1, hl, z⟩ | ⟨t1, d1, e1, z⟩ <;> simp only [e1]
  · rw [if_pos (by rw [sz_eq]; exact hl)]; exact z
  · exact z
theorem we_callT {Ff : List T → Fo} (z : We (f δ) (fun t δ' => Wf (Ff [t]) (fun r _ => Q r δ') fun e _ => E e δ') E) : We (fCallT Ff f δ) Q E := by
  unfold fCallT
  rcases we_c z with ⟨t0, d0, e0, z⟩ | ⟨t0, d0, e0, z⟩ <;> simp only [e0]
  rotate_left
  · exact z
  rcases wf_or z with ⟨t, l, e3, z⟩ | ⟨t, l, e3, z⟩ <;> simp only [e3] <;> exact z
theorem ws_tryA {hs : List Hx} (z : Ws (F δ) (fun δ' => Ws (G δ') N B C R E) B C R fun e δ' => Ws (hdM hs e δ') N B C R E) : Ws (sTryA hs F G δ) N B C R E := by
  unfold sTryA
  obtain ⟨fl, δ', e, z⟩ := ws_c z
  rw [e]
  cases fl <;> exact z
theorem ws_hdN {e : Xn} (z : E e δ) : Ws (hdM [] e δ) N B C R E := z
theorem ws_hd1 {e : Xn} {m : List (Str × Bool)} {H : Sf} {hs : List Hx} (z : So (m.lookup e.cls) fun b => if b = true then Ws (H δ) N B C R fun _ _ => False else Ws (hdM hs e δ) N B C R E) : Ws (hdM (.one m H :: hs) e δ) N B C R E := by
  obtain ⟨b, e1, z⟩ := z
  unfold hdM
  simp only [e1]
  cases b with
  | false => exact z
  | true =>
    rw [if_pos rfl] at z
    obtain ⟨fl, δ', e2, z⟩ := ws_c z
    simp only [e2]
    cases fl <;> first | exact z | exact z.elim
theorem ws_hdA {e : Xn} {m : List (Str × Bool)} {fl : Str} {H : Xn → Sf} {hs : List Hx} (z : So (m.lookup e.cls) fun b => if b = true then Sd (e.fld = fl ∧ i < δ.length) (Nm (δ.set i (some e.val)) fun δ2 => Ws (H e δ2) (fun δ2 => Nm (δ2.set i none) N) (fun δ2 => Nm (δ2.set i none) B) (fun δ2 => Nm (δ2.set i none) C) (fun t δ2 => Nm (δ2.set i none) (R t)) fun _ _ => False) else Ws (hdM hs e δ) N B C R E) : Ws (hdM (.as m fl i H :: hs) e δ) N B C R E := by
  obtain ⟨b, e1, z⟩ := z
  unfold hdM
  simp only [e1]
  cases b with
  | false => exact z
  | true =>
    rw [if_pos rfl] at z
    obtain ⟨h2, z⟩ := z
    unfold Nm at z
    try dsimp only at z
    simp only [h2, and_self, if_true]
    obtain ⟨fl', δ', e2, z⟩ := ws_c z
    simp only [e2]
    cases fl' <;> first | exact z | exact z.elim
theorem wq_isX {mk : List (Str × Bool)} {c : Str} (z : At δ i fun _ => So (mk.lookup c) fun b => q (.bl b)) : Wq (isXq i mk c δ) q := by
  obtain ⟨t, e, b, e1, z⟩ := z
  unfold isXq
  rw [e, e1]
  exact z
theorem wo_ix_dt {ks : List (List Key)} {kk : List Key} (h : keysT us = some kk) (e : lookT ks ts kk = some y) (z : q y) : Wq (ixA [.dit ks ts, .tup us]) q := by
  have e1 : ixR [.dit ks ts, .tup us] = none := rfl
  have e2 : ixA [.dit ks ts, .tup us] = some y := by
    simp only [ixA, altT, ixR, ixD, dgetR, dgetD, dlook, h, e]
    cases hs : y.isS <;> simp [hs]
  rw [e2]; exact z
end
end NQ
namespace NQ
open PySem L2
/-- a list told by a function -/
def rg {α : Type} (n : Nat) (f : Nat → α) : List α := (List.range n).map f
section
variable {α β : Type} {n i : Nat} {f g : Nat → α}
theorem rg_len : (rg n f).length = n := by unfold rg; simp
end
theorem eqB_bb {a b : Bool} : eqB (.bl a) (.bl b) = some (decide (a = b)) := by cases a <;> cases b <;> decide +kernel
theorem atI2 {α : Type} {a b c : α} {r : List α} : atI (a :: b :: c :: r) 2 = some c := (atI_nat (n := 2) (by simp)).trans rfl
theorem atI3 {α : Type} {a b c d : α} {r : List α} : atI (a :: b :: c :: d :: r) 3 = some d := (atI_nat (n := 3) (by simp)).trans rfl
theorem atI4 {α : Type} {a b c d e : α} {r : List α} : atI (a :: b :: c :: d :: e :: r) 4 = some e := (atI_nat (n := 4) (by simp)).trans rfl
end NQ
namespace NL
open PySem PySem.Spec PyProof.Rows L2
/-! ### a == b by an own class's __eq__ -/
section
variable {X : Cx} {k : Nat} {C : Addr} {a b : Expr} {ta tb : TE} {pos : Pos} {ps : List Str} {sp : Sp} {W : WX}
end
end NL
namespace NQ
open PySem L2
section
variable {X : Cx} {K : PySem.W.Frag} {sh : Nat → Sh} {Wx : WX} {ps : List Sh} {rs : Sh} {F : List T → Fo} {o1 o2 : Opd} {cl : Str} {k : Nat} {o i a b e : Expr} {params : List Str} {pos : Pos}
end
end NQ
namespace NQ
open PySem L2
/-! ### tuples joined, both frozen -/
def addU : Op
  | [.tup xs, .tup ys] => if xs.length + ys.length ≤ sizeLine then some (.tup (xs ++ ys)) else none
  | _ => none
section
variable {X : Cx} {K : PySem.W.Frag} {sh : Nat → Sh} {Wx : WX} {e a b : Expr} {es : List Expr} {r : List V → Hp → VK → Prop} {op : Op} {l : List (Md × Qf)} {pos : Pos}
theorem wo_addU {xs ys : List T} {q : T → Prop} (h : xs.length + ys.length ≤ 16777216) (z : q (.tup (xs ++ ys))) : Wq (addU [.tup xs, .tup ys]) q := by
  have e : addU [.tup xs, .tup ys] = some (.tup (xs ++ ys)) := by
    show (if xs.length + ys.length ≤ sizeLine then some (T.tup (xs ++ ys)) else none) = _
    rw [if_pos (by rw [sz_eq]; exact h)]
  rw [e]; exact z
end
end NQ
namespace NQ
open PySem L2
/-! ### the kind of a wish, asked before its rules are tried -/
theorem g_ws {r : Ss} {N B C : Dl → Prop} {R : T → Dl → Prop} {E : Xn → Dl → Prop} (h : Ws r N B C R E) : Ws r N B C R E := h
theorem g_we {r : Rs} {Q : T → Dl → Prop} {E : Xn → Dl → Prop} (h : We r Q E) : We r Q E := h
theorem g_wq {r : Option T} {Q : T → Prop} (h : Wq r Q) : Wq r Q := h
theorem g_wqo {op : Op} {ts : List T} {Q : T → Prop} (h : Wq (op ts) Q) : Wq (op ts) Q := h
theorem g_wt {r : Option Bool} {Q : Bool → Prop} (h : Wt r Q) : Wt r Q := h
end NQ
/-! A text with a token: e.replace(" ", x), where the local x was drawn from a written list. -/
namespace NL
open PySem PySem.Spec PyProof.Rows L2
/-- the frame's names are as they were -/
def Kn (X : Cx) (s s' : Shared) : Prop := ∀ m, s.heap.Ns X.env.locals m → s'.heap.Ns X.env.locals m
/-- the local x is a text with a token -/
def TokAt (X : Cx) (x : Str) (s : Shared) : Prop := 1 ≤ s.toks ∧ ∃ m y t, s.heap.Ns X.env.locals m ∧ m x = some (.str y t) ∧ t ≠ 0
theorem Kn.refl {X : Cx} {s : Shared} : Kn X s s := fun _ h => h
theorem Kn.tr {X : Cx} {s0 s1 s2 : Shared} (h1 : Kn X s0 s1) (h2 : Kn X s1 s2) : Kn X s0 s2 := fun m h => h2 m (h1 m h)
theorem Kn.keep {X : Cx} {s s' : Shared} (k : ∀ b u, s.heap.get? b = some u → s'.heap.get? b = some u) : Kn X s s' := fun m h => by
  obtain ⟨o, es, ep, ho, r⟩ := h
  exact ⟨o, es, ep, k _ _ ho, r⟩
theorem TokAt.kn {X : Cx} {x : Str} {s s' : Shared} (h : TokAt X x s) (k : Kn X s s') (ht : s.toks ≤ s'.toks) : TokAt X x s' := by
  obtain ⟨h1, m, y, t, h2, h3, h4⟩ := h
  exact ⟨Nat.le_trans h1 ht, m, y, t, k m h2, h3, h4⟩
theorem kn_ce {X : Cx} {pins : List (Addr × Obj)} {σ : L2.St} {H : Hp} {s s' : Shared} {Q : VK} {u : Value} (I : Inv X pins σ H s) (h : CE X.stack X.prog X.w H s Q u s') : Kn X s s' := fun m hm => by
  obtain ⟨v, H', os, bare, un, hok, r, q⟩ := h
  obtain ⟨o, es, ep, ho, rr⟩ := hm
  obtain ⟨sl, hL⟩ := un.any ho I.free (fun z => nomatch z)
  exact ⟨_, es, ep, hL, rr⟩
/-! ### expressions that keep the frame's names -/
def PEK (X : Cx) (e : Expr) (te : TE) : Prop := ∀ (pins : List (Addr × Obj)) (s : Shared) (σ : L2.St) (H : Hp) (Q : VK), Inv X pins σ H s → te σ H Q → wpAny (model X.prog X.w) X.A (eval e X.env) (fun u s' => EP X pins σ Q u s' ∧ Kn X s s') X.xe s
def PAK (X : Cx) (es : List Expr) (t : TA) : Prop :=
  ∀ (pos : Pos) (pins : List (Addr × Obj)) (s : Shared) (σ : L2.St) (H : Hp) (Q : List V → Hp → Prop), Inv X pins σ H s → t σ H Q → wpAny (model X.prog X.w) X.A (spliced (backTo pos (starEach es X.env))) (fun us s' => AP X pins σ Q us s' ∧ Kn X s s') X.xe s
def PSsR (X : Cx) (ρ : Shared → Prop) (rest : List Stmt) (t : TS) : Prop := ∀ (pins : List (Addr × Obj)) (s : Shared) (σ : L2.St) (H : Hp) (D : Ends), Inv X pins σ H s → ρ s → t D σ H → wpAny (model X.prog X.w) X.A (execs rest X.env) (SP X pins D) X.xe s
def PER (X : Cx) (ρ : Shared → Prop) (e : Expr) (te : TE) : Prop := ∀ (pins : List (Addr × Obj)) (s : Shared) (σ : L2.St) (H : Hp) (Q : VK), Inv X pins σ H s → ρ s → te σ H Q → wpAny (model X.prog X.w) X.A (eval e X.env) (EP X pins σ Q) X.xe s
def PAR (X : Cx) (ρ : Shared → Prop) (es : List Expr) (t : TA) : Prop :=
  ∀ (pos : Pos) (pins : List (Addr × Obj)) (s : Shared) (σ : L2.St) (H : Hp) (Q : List V → Hp → Prop), Inv X pins σ H s → ρ s → t σ H Q → wpAny (model X.prog X.w) X.A (spliced (backTo pos (starEach es X.env))) (AP X pins σ Q) X.xe s
section
variable {X : Cx}
theorem pek_name {i : Nat} {x : Str} {pos : Pos} (hN : X.N[i]? = some x := by rfl) (hv : Vis X.env.scope x := by first | exact .inl rfl | exact .inr (.inl rfl) | exact .inr (.inr rfl))
    (hd : (x == ("__debug__" : Str)) = false := by decide) (hcd : (x == ("__classdict__" : Str)) = false := by decide) : PEK X (.Name x pos) (tVar i) := fun pins s σ H Q I h => by
  obtain ⟨v, h1, h2⟩ := h
  exact raw_name hN hv I h1 (fun u r => ⟨⟨v, H, I, r, h2⟩, .refl⟩) hd hcd
theorem pek_str {x : Str} {j : Nat} {pos : Pos} : PEK X (.Constant (.str x) j pos) (tC (.str x)) := fun pins s σ H Q I h =>
  Calls.Constant_str ⟨⟨.str x, H, I.tok _, ⟨_, rfl⟩, h⟩, fun _ z => z⟩
theorem pak_nil : PAK X [] tNil := fun _ _ _ _ H Q I h => Calls.spliced_nil ⟨⟨[], H, I, .nil, h⟩, .refl⟩
theorem pak_cons {e : Expr} {es : List Expr} {te : TE} {ta : TA} (ha : PEK X e te) (hr : PAK X es ta) (hs : starEach (e :: es) X.env = (false, eval e X.env) :: starEach es X.env := by rfl) : PAK X (e :: es) (tCons te ta) := fun pos pins s σ H Q I h => by
  rw [hs]
  refine Calls.spliced_cons (thn (ha pins s σ H _ I h) fun v s1 q => ?_)
  obtain ⟨⟨x, H1, I1, r1, q1⟩, k1⟩ := q
  refine thn (hr pos pins s1 σ H1 _ I1 q1) fun us s2 q2 => ?_
  obtain ⟨⟨xs, H2, I2, r2, q2⟩, k2⟩ := q2
  exact ⟨⟨x :: xs, H2, I2, .cons r1 r2, q2⟩, k1.tr k2⟩
theorem pek_lst {es : List Expr} {ta : TA} {pos : Pos} (h : PAK X es ta) : PEK X (.List es pos) (tLst ta) := fun pins s σ H Q I hq => by
  refine wpAny_List_spliced (thn (h pos pins s σ H _ I hq) fun us s1 z => ?_)
  obtain ⟨⟨xs, H1, I1, r, z, q⟩, k1⟩ := z
  refine ⟨by rw [← r.length]; exact z, ?_⟩
  have hf : H1 s1.heap.objs.size = none := I1.hok.fresh (Nat.le_refl _)
  have k2 : ∀ b u, s1.heap.get? b = some u → (s1.heap.push { cls := .type "list", data := .seq us.toArray 0 }).get? b = some u := fun b u e => Heap.get?_push_of_some _ e
  refine ⟨⟨.ref s1.heap.objs.size, upd H1 s1.heap.objs.size (.lst xs), I1.laid (t' := s1.toks) k2 (Nat.le_refl _) ?_, rfl, q _ hf⟩, k1.tr (.keep k2)⟩
  exact ⟨z, us, 0, r, Heap.get?_push_size _ rfl⟩
/-- a local is stored: the frame's names behind it -/
theorem store_map {M : Model} {A : Around} {E : Value → Shared → Prop} {pins : List (Addr × Obj)} {σ : L2.St} {H : Hp} {s : Shared} {i : Nat} {y : Str} {v : V} {u : Value} {Q : Unit → Shared → Prop} (I : Inv X pins σ H s) (hN : X.N.Nodup) (hi : X.N[i]? = some y)
    (hk : X.env.scope.names.lookup y = some .local) (r : RelV v u)
    (h : ∀ s', Inv X pins (σ.set i (some v)) H s' → s.toks + 1 ≤ s'.toks → (∀ m, s.heap.Ns X.env.locals m → s'.heap.Ns X.env.locals fun z => if z = y then some u else m z) → Q () s') : wpAny M A (storeName X.env y u) Q E s := by
  obtain ⟨m0, hn, hl⟩ := id I.loc
  have hc : (X.env.scope.kind == .class || (X.env.scope.kind == .module && X.env.locals != X.env.globals)) = false := by rw [I.ok.kind]; rfl
  refine wpAny_storeName_local hk hn (fun h' hn' hs => ?_) hc
  have kp : ∀ b u, b ≠ X.env.locals → s.heap.get? b = some u → h'.get? b = some u := fun b u n e => (hs.2 b n).trans e
  have low : ∀ b u, X.s_0.heap.get? b = some u → b ≠ X.env.locals := fun b u e z => by
    have h1 := Heap.lt_size e
    rw [z] at h1
    exact absurd (Nat.lt_of_lt_of_le h1 I.ok.above) (Nat.lt_irrefl _)
  have tr : ∀ b u, H b = some u → b ≠ X.env.locals := fun b u e z => by rw [z, I.free] at e; cases e
  have li : i < σ.length := by rw [I.len]; exact (List.getElem?_eq_some_iff.mp hi).1
  refine h { s with heap := h', toks := s.toks + 1 } ?_ (Nat.le_refl _) fun m hm => ?_
  · exact {
      ok := I.ok
      os := I.os
      bare := I.bare
      base := {
        keep := fun b u e a1 a2 a3 => kp b u (low b u e) (I.base.keep b u e a1 a2 a3)
        slot := fun b u e a1 a2 a3 => (I.base.slot b u e a1 a2 a3).imp fun sl q => kp b _ (low b u e) q
        free := I.base.free
        there := fun b u e a1 => (I.base.there b u e a1).imp fun u' q => kp b u' (low b u e) q
        tups := I.base.tups
        frzs := I.base.frzs
        tbls := I.base.tbls }
      loc := ⟨_, hn', fun j z w e1 e2 e3 => by
        by_cases hj : i = j
        · subst hj
          rw [List.getElem?_set_self li] at e2
          cases e2
          rw [hi] at e1
          cases e1
          exact ⟨u, r, .inl ⟨hk, if_pos rfl⟩⟩
        · rw [List.getElem?_set_ne hj] at e2
          obtain ⟨w', r', q⟩ := hl j z w e1 e2 e3
          refine ⟨w', r', q.imp (fun q => ⟨q.1, ?_⟩) fun q => ⟨q.1, q.2.imp fun c q => ⟨q.1, q.2.sameBut hs (I.cne z c q.1)⟩⟩⟩
          have zy : z ≠ y := fun e => hj (nodup_ix hN hi (e ▸ e1))
          show (if z = y then _ else _) = _
          rw [if_neg zy]
          exact q.2⟩
      cell := fun z c e => (I.cell z c e).imp fun w q => q.sameBut hs (I.cne z c e)
      free := I.free
      freeC := I.freeC
      pin := fun p hp => by
        obtain ⟨a1, a2, a3, a4⟩ := I.pin p hp
        exact ⟨kp _ _ a3 a1, a2, a3, a4⟩
      hok := fun b u e => (I.hok b u e).stay (fun c w hw q => kp c w (by
        rcases hw with rfl | hw
        · exact tr _ _ e
        · exact tr _ _ hw) q) (fun _ q => q) fun _ _ q => q
      len := by rw [List.length_set]; exact I.len }
  · rw [hm.eq_nsMap, ← hn.eq_nsMap]
    exact hn'
theorem psr_keep {i : Nat} {x y : Str} {e : Expr} {te : TE} {rest : List Stmt} {u : TS} {p' pos : Pos} (he : PEK X e te) (nd : X.N.Nodup) (h2 : PSsR X (TokAt X x) rest u) (hi : X.N[i]? = some y := by rfl) (hk : X.env.scope.names.lookup y = some .local := by rfl) (hxy : x ≠ y := by decide)
    (hs : swapsWith e (some (.Name y p')) pos.line X.env = pure false := by rfl) : PSsR X (TokAt X x) (.Assign [.Name y p'] e pos :: rest) (tSeq (tAsg te (gName i)) u) := fun pins s σ H D I ρ h => by
  refine wpAny_execs_cons (wpAny_Assign_Name (wpAny_mono (PySem.wpAny_toks (he pins s σ H _ I h)) (fun v s1 q => ?_) fun _ _ z => z.2) hs)
  obtain ⟨ht, ⟨w, H1, I1, r1, q1⟩, k1⟩ := q
  obtain ⟨o1, m, z, t, o2, o3, o4⟩ := ρ
  refine store_map I1 nd hi hk r1 fun s2 I2 t2 hm => ?_
  exact h2 pins s2 _ H1 D I2 ⟨Nat.le_trans o1 (Nat.le_trans ht (Nat.le_of_succ_le t2)), _, z, t, hm m (k1 m o2), by rw [if_neg hxy]; exact o3, o4⟩ q1
theorem psr_use {ρ : Shared → Prop} {i : Nat} {y : Str} {e : Expr} {te : TE} {rest : List Stmt} {u : TS} {p' pos : Pos} (he : PER X ρ e te) (nd : X.N.Nodup) (h2 : PSs X rest u) (hi : X.N[i]? = some y := by rfl) (hk : X.env.scope.names.lookup y = some .local := by rfl)
    (hs : swapsWith e (some (.Name y p')) pos.line X.env = pure false := by rfl) : PSsR X ρ (.Assign [.Name y p'] e pos :: rest) (tSeq (tAsg te (gName i)) u) := fun pins s σ H D I ρ h => by
  refine wpAny_execs_cons (wpAny_Assign_Name (thn (he pins s σ H _ I ρ h) fun v s1 q => ?_) hs)
  obtain ⟨w, H1, I1, r1, q1⟩ := q
  exact store_map I1 nd hi hk r1 fun s2 I2 _ _ => h2.run pins s2 _ H1 D I2 q1
/-- behind a store a token is out -/
theorem pss_tok {i : Nat} {y : Str} {e : Expr} {te : TE} {rest : List Stmt} {u : TS} {p' pos : Pos} (he : PE X e te) (nd : X.N.Nodup) (h2 : PSsR X (fun s => 1 ≤ s.toks) rest u) (hi : X.N[i]? = some y := by rfl) (hk : X.env.scope.names.lookup y = some .local := by rfl)
    (hs : swapsWith e (some (.Name y p')) pos.line X.env = pure false := by rfl) : PSs X (.Assign [.Name y p'] e pos :: rest) (tSeq (tAsg te (gName i)) u) := ⟨fun pins s σ H D I h => by
  refine wpAny_execs_cons (wpAny_Assign_Name (thn (he.run pins s σ H _ I h) fun v s1 q => ?_) hs)
  obtain ⟨w, H1, I1, r1, q1⟩ := q
  exact store_map I1 nd hi hk r1 fun s2 I2 t2 _ => h2 pins s2 _ H1 D I2 (Nat.le_trans (Nat.le_add_left 1 _) t2) q1⟩
/-! ### arguments -/
theorem par_here {ρ : Shared → Prop} {e : Expr} {es : List Expr} {te : TE} {ta : TA} (ha : PER X ρ e te) (hr : PA X es ta) (hs : starEach (e :: es) X.env = (false, eval e X.env) :: starEach es X.env := by rfl) : PAR X ρ (e :: es) (tCons te ta) := fun pos pins s σ H Q I p h => by
  rw [hs]
  refine Calls.spliced_cons (thn (ha pins s σ H _ I p h) fun v s1 q => ?_)
  obtain ⟨x, H1, I1, r1, q1⟩ := q
  exact thn (hr.run pos pins s1 σ H1 _ I1 q1) fun us s2 ⟨xs, H2, I2, r2, q2⟩ => ⟨x :: xs, H2, I2, .cons r1 r2, q2⟩
theorem per_opl {ρ : Shared → Prop} {e f : Expr} {op : Operator} {r : R2} {te tf : TE} {pos : Pos} (ho : OpR X (binaryOp op) r) (ha : PER X ρ e te) (hb : PE X f tf) : PER X ρ (.BinOp e op f pos) (tOp r te tf) := fun pins s σ H Q I p h => by
  refine wpAny_BinOp (thn (ha pins s σ H _ I p h) fun v s1 q => ?_)
  obtain ⟨x, H1, I1, r1, q1⟩ := q
  exact thn (hb.run pins s1 σ H1 _ I1 q1) fun u s2 ⟨y, H2, I2, r2, q2⟩ => ho pins s2 σ H2 x y v u Q I2 r1 r2 q2
theorem per_opr {z : Str} {e f : Expr} {op : Operator} {r : R2} {te tf : TE} {pos : Pos} (ho : OpR X (binaryOp op) r) (ha : PEK X e te) (hb : PER X (TokAt X z) f tf) : PER X (TokAt X z) (.BinOp e op f pos) (tOp r te tf) := fun pins s σ H Q I p h => by
  refine wpAny_BinOp (wpAny_mono (PySem.wpAny_toks (ha pins s σ H _ I h)) (fun v s1 q => ?_) fun _ _ z => z.2)
  obtain ⟨ht, ⟨x, H1, I1, r1, q1⟩, k1⟩ := q
  exact thn (hb pins s1 σ H1 _ I1 (p.kn k1 ht) q1) fun u s2 ⟨y, H2, I2, r2, q2⟩ => ho pins s2 σ H2 x y v u Q I2 r1 r2 q2
/-! ### the replacing itself -/
theorem repl_same {P : Program} {w : World} {A : Around} {E : Value → Shared → Prop} {s : Shared} {x y z : Str} {t u : Tok} {Q : Value → Shared → Prop} (hu : u ≠ 0) (hq : Q (.str x t) s) :
    wpAny (model P w) A (call (.builtin "str.replace") [.str x t, .str y u, .str z u]) Q E s := by
  have e : isSame (.str y u) (.str z u) = pure true := by
    show (if (u == 0 || u == 0) = true then _ else if (u == u) = true then pure true else _ : Sem Bool) = _
    rw [show (u == 0) = false from by simp [hu], show (u == u) = true from by simp]
    rfl
  refine call_givesAt F.slot_str_replace (typeIs_str _ _ _) F.entry_str_replace (F.args_str_replace_3 _ _ _) (m := .val (.str x t)) (P := fun _ => True) ?_ trivial hq
  show GivesAt _ (if ((Builtin.Str.occurrences x y 0 x.length (x.length + 1)).isEmpty || (y.length == 0 && z.length == 0)) = true then (do rule "str.replace.nothing"; ret (.str x t)) else
          (do let same ← isSame (.str y u) (.str z u)
              if same = true then (do rule "str.replace.old-is-new"; ret (.str x t)) else
              if Builtin.Str.tooLong (x.length + (Builtin.Str.occurrences x y 0 x.length (x.length + 1)).length * z.length) = true then unsupported "str.replace:memory" else
              retStr (Builtin.Str.glued z (Builtin.Str.partsBetween x (Builtin.Str.occurrences x y 0 x.length (x.length + 1)) y.length)))) _
  rw [e]
  split
  · exact Gives.at (.rule (.of_eq rfl))
  · exact Gives.at (.rule (.of_eq rfl))
/-- list(e) of a list -/
theorem pek_list0 {e : Expr} {te : TE} {p pos : Pos} (ha : PEK X e te) (hg : Gl X "list") (hm : X.mg "list" = none) (he : starEach [e] X.env = (false, eval e X.env) :: starEach [] X.env := by rfl) (hpl : (backTo pos (starEach [] X.env)).any (·.1) = false := by rfl) :
    PEK X (.Call (.Name "list" p) [e] [] pos) (tCB (dList X.K) (tCons te tNil)) := fun pins s σ H Q I h => by
  refine wpAny_Call_Name_kw (ld_blt I hg hm rfl ?_ (by decide) (by decide))
  refine PyProof.Rows.callWith_type1 (thn (pak_cons ha pak_nil he pos pins s σ H _ I h) fun us s1 q => ?_) he hpl
  obtain ⟨⟨vs, H1, I1, r, h1⟩, k1⟩ := q
  match vs, h1 with
  | [.ref a], h1 =>
    obtain ⟨ys, hq, q⟩ := h1
    obtain ⟨u, rfl, rx⟩ := vals1 r
    cases rx
    have fin : ∀ (its : List Value), Vals ys its → ys.length ≤ sizeLine → ∀ (h' : Heap) (c' : Nat), (∀ b o', s1.heap.get? b = some o' → h'.get? b = some o') →
        h'.get? s1.heap.objs.size = some { cls := .type "list", dict := none, data := .seq its.toArray c', slots := #[] } → EP X pins σ Q (.ref s1.heap.objs.size) { s1 with heap := h' } ∧ Kn X s { s1 with heap := h' } := fun its r' hz h' c' kp e =>
      ⟨⟨.ref s1.heap.objs.size, _, I1.laid (o := .lst ys) (t' := s1.toks) kp (Nat.le_refl _) ⟨hz, its, c', r', e⟩, rfl, q _ (I1.hok.fresh (Nat.le_refl _))⟩, k1.tr (.keep kp)⟩
    rcases hq with hq | hq
    · obtain ⟨its, r', pl, hz⟩ := I1.list hq
      have hlen := r'.length
      obtain ⟨o, ho, hc, n, hd⟩ := pl.isList
      exact call_list_seq a (.inl rfl) ho hc hd (fun h' c' kp e => fin its r' hz h' c' kp e) (by simp only [List.size_toArray] <;> omega)
    · obtain ⟨its, r', pl, hz⟩ := I1.tuple hq
      have hlen := r'.length
      obtain ⟨o, ho, hc, n, hd⟩ := pl
      exact call_list_seq a (.inr rfl) ho hc hd (fun h' c' kp e => fin its r' hz h' c' kp e) (by simp only [List.size_toArray] <;> omega)
theorem pek_list (K : PySem.W.Frag) {e : Expr} {te : TE} {p pos : Pos} (ha : PEK X e te) (hg : Gl X "list") (hm : X.mg "list" = none) (h : X.K = K := by rfl) (he : starEach [e] X.env = (false, eval e X.env) :: starEach [] X.env := by rfl) (hpl : (backTo pos (starEach [] X.env)).any (·.1) = false := by rfl) :
    PEK X (.Call (.Name "list" p) [e] [] pos) (tCB (dList K) (tCons te tNil)) := h ▸ pek_list0 ha hg hm he hpl
/-- f(..) of an own def -/
theorem pek_call {W : WX} {k : Nat} {x : Str} {ps : List Str} {sp : Sp} {e : Expr} {es : List Expr} {t : TA} {p pos : Pos} (C : Cal X.prog X.w X.K X.mg X.base k x ps sp) (tk : Takes X W) (hr : Room k X.A) (ha : PAK X (e :: es) t) (hg : Gl X x := by rfl) (hdb : (x == ("__debug__" : Str)) = false := by decide)
    (he : starEach (e :: es) X.env = (false, eval e X.env) :: starEach es X.env := by rfl) (hpl : (backTo pos (starEach es X.env)).any (·.1) = false := by rfl) :
    PEK X (.Call (.Name x p) (e :: es) [] pos) (tCallS sp (WE W) t) := fun pins s σ H Q I h => by
  obtain ⟨f, fd, hm, hk, hb, F⟩ := C.ex
  refine wpAny_Call_Name_kw (ld_glob I hg hm ?_ hdb)
  refine PySem.W.callWith_K (h₀ := X.base) I.ok.mod.kin hk (thn (ha pos pins s σ H _ I h) fun us s1 q => ?_) he hpl
  obtain ⟨⟨vs, H1, I1, r, q⟩, k1⟩ := q
  refine ⟨I1.kIn, ?_⟩
  have hl : (us ++ []).length = ps.length := by
    rw [List.append_nil, ← r.length]
    exact F.len _ _ _ _ q
  have hb2 := hb s1 us I1.kIn hl
  rw [List.append_nil] at hb2
  refine wpAny_call (codeAny_mono (F.run X.A X.stack s1 H1 ⟨us, []⟩ us vs Q (WE W σ) hr I1.env0 hb2 r q) fun r s' hq => ?_)
  cases r with
  | error e => exact passAt tk σ pins H1 s1 e s' I1 hq
  | ok fl =>
    cases fl with
    | ret u => exact ⟨I1.after hq, k1.tr (kn_ce I1 hq)⟩
    | next => exact False.elim hq
    | brk => exact False.elim hq
    | cont => exact False.elim hq
/-- C(..) of an own class, what is known beside told to the arguments -/
theorem per_make {W : WX} {ρ : Shared → Prop} {k : Nat} {x : Str} {C : Addr} {ps : List Str} {sp : Sp} {e : Expr} {es : List Expr} {t : TA} {p pos : Pos} (M : MkC X.prog X.w X.K X.mg X.base k x C ps sp) (tk : Takes X W) (hr : Room (k + 1) X.A) (ha : PAR X ρ (e :: es) t) (hg : Gl X x := by rfl) (hdb : (x == ("__debug__" : Str)) = false := by decide)
    (he : starEach (e :: es) X.env = (false, eval e X.env) :: starEach es X.env := by rfl) (hpl : (backTo pos (starEach es X.env)).any (·.1) = false := by rfl) :
    PER X ρ (.Call (.Name x p) (e :: es) [] pos) (tMakeS C sp (WE W) t) := fun pins s σ H Q I g h => by
  obtain ⟨f, fd, M1, hb, F⟩ := M.fn
  refine wpAny_Call_Name_kw (ld_glob I hg M.g ?_ hdb)
  refine PySem.W.callWith_K (h₀ := X.base) I.ok.mod.kin M1.kp (thn (ha pos pins s σ H _ I g h) fun us s1 q => ?_) he hpl
  obtain ⟨vs, H1, I1, r, q⟩ := q
  exact ⟨I1.kIn, run_makeS M1 F hr hb tk I1 r q⟩
/-- no token is booked -/
def nobB (K : PySem.W.Frag) : Bool := match K.lookup cStatics with
  | some o => (match o.data with
    | .dict es _ => es.toList.all (fun e => match e.key with | .str _ _ => true | _ => false) && (nsFind es sharingNotToldKey).isNone
    | _ => false)
  | none => false
theorem nob_of {K : PySem.W.Frag} {h : Heap} (e : nobB K = true) (k : K.In h) : NoneBooked h := by
  unfold nobB at e
  split at e
  · rename_i o ho
    split at e
    · rename_i es ep hd
      rw [Bool.and_eq_true] at e
      refine ⟨fun z => nsFind es z, ⟨o, es, ep, k _ _ ho, hd, fun d hm => ?_, fun _ => rfl⟩, Option.isNone_iff_eq_none.mp e.2⟩
      have := List.all_eq_true.mp e.1 d (Array.mem_toList_iff.mpr hm)
      cases q : d.key <;> rw [q] at this <;> first | exact ⟨_, _, rfl⟩ | cases this
    · cases e
  · cases e
/-- text.replace(" ", blanks) -/
def tRepl (y : Str) (i j : Nat) : TE := fun σ H Q => ∃ a b, σ[i]? = some (some (.str a)) ∧ σ[j]? = some (some (.str b)) ∧ a.length + (a.length + 1) * b.length ≤ 16777216 ∧ ∀ c, c = a ∨ c = Txt.replace a y b → Q (.str c) H
theorem per_repl {i j : Nat} {xi xj y : Str} {n : Nat} {p1 p2 c0 apos pos : Pos} (hB : nobB X.K = true) (hNi : X.N[i]? = some xi := by rfl) (hNj : X.N[j]? = some xj := by rfl) (hvi : Vis X.env.scope xi := by first | exact .inl rfl | exact .inr (.inl rfl)) (hkj : X.env.scope.names.lookup xj = some .local := by rfl)
    (hdi : (xi == ("__debug__" : Str)) = false := by decide) (hci : (xi == ("__classdict__" : Str)) = false := by decide) (hdj : (xj == ("__debug__" : Str)) = false := by decide)
    (hst : starEach [.Constant (.str y) n c0, .Name xj p2] X.env = [(false, eval (.Constant (.str y) n c0) X.env), (false, eval (.Name xj p2) X.env)] := by rfl)
    (hbase : attributeBase (.Name xi p1) "replace" X.env (eval (.Name xi p1) X.env) = eval (.Name xi p1) X.env := by rfl) (hline : (apos.endLine == pos.line) = true := by rfl) :
    PER X (TokAt X xj) (.Call (.Attribute (.Name xi p1) "replace" apos) [.Constant (.str y) n c0, .Name xj p2] [] pos) (tRepl y i j) := fun pins s σ H Q I ρ h => by
  obtain ⟨a, b, hi, hj, hz, qq⟩ := h
  have q1 := qq a (.inl rfl)
  have q2 := qq _ (.inr rfl)
  obtain ⟨o1, m, z, t, o2, o3, o4⟩ := ρ
  refine PySem.Call_method2 hbase hst hline (raw_name hNi hvi I hi (fun v r => ?_) hdi hci)
  obtain ⟨tx, rfl⟩ := r
  refine ⟨"str", _, F.plainAttrs_str, F.slot_str_replace, F.type_str_replace, typeIs_str _ _ _, (fun _ e => nomatch e), Calls.callWith_builtin rfl (Calls.evalArgs_plain (Calls.spliced_cons ?_))⟩
  refine Calls.Constant_str (Calls.spliced_cons ?_)
  have I2 : Inv X pins σ H { s with toks := s.toks + 1 } := I.tok _
  obtain ⟨m0, hn, hl⟩ := I.loc
  obtain ⟨u, r, l⟩ := hl j xj _ hNj hj (.inl hkj)
  obtain ⟨tb, er⟩ := r
  subst er
  have hmx : m xj = some (.str b tb) := by
    rcases l with l | l
    · rw [o2.eq_nsMap, ← hn.eq_nsMap]; exact l.2
    · have := l.1
      have hk2 : X.env.kindOf xj = some .local := hkj
      rw [hk2] at this
      rcases this with h | h <;> cases h
  rw [hmx] at o3
  have o3 := Option.some.inj o3
  injection o3 with o5 o6
  rw [← o6] at o4
  refine wpAny_Name (wpAny_loadName_local I.ok.kind hkj (show ({ s with toks := s.toks + 1 } : Shared).heap.Ns X.env.locals m from o2) hmx ?_) hdj
  refine Calls.spliced_nil ?_
  by_cases hu : s.toks = tb
  · subst hu
    exact repl_same o4 ⟨.str a, H, I2, ⟨tx, rfl⟩, q1⟩
  · exact SC.replaceA (show s.toks ≠ 0 by omega) o4 hu hz (fun t' k => ⟨.str (Txt.replace a y b), H, I.tok k, ⟨t', rfl⟩, q2⟩) (nob_of hB I.kIn)
end
/-! ### one of some written texts -/
def TkV (u : Value) : Prop := ∃ y t, u = .str y t ∧ t ≠ 0
/-- what a drawing def gives back, told of the value itself -/
def OfRun (P : Program) (w : World) (K : PySem.W.Frag) (mg : Str → Option Value) (base : Heap) (k : Nat) (f : Addr) : Prop :=
  ∀ (A : Around) (outer : List Env) (s : Shared) (H : Hp) (b a : Addr) (o : Obj) (us : List Value) (xs : List V) (Q : VK) (E : XK), Room k A → Env0 P w K mg base A outer s H → Bag H b → H a = some (.frz o (.lst xs)) → o.cls = .type "list" → o.data = .seq us.toArray 0 → Vals xs us → a ≠ b → 0 < xs.length → xs.length < 1000 →
    (∀ v H', v ∈ xs → Sx [b] H H' → Bag H' b → Q v H') →
    codeAny (model P w) A (.call (.ref f) ⟨[.ref b, .ref a], []⟩) (fun r s' => match r with | .ok (.ret u) => u ∈ us ∧ CE outer P w H s Q u s' | .ok _ => False | .error e => L2.CX P w outer H s E e s') s
theorem of_run {P : Program} {w : World} {K : PySem.W.Frag} {mg : Str → Option Value} {base : Heap} {k : Nat} {f : Addr} {fd : FuncData} {x qual : Str} {params : Arguments} {body : List Stmt} {scope : Scope} {a0 a1 : Str} {e2 : Expr} {p1 p2 p3 : Pos}
    (F : FunD K x qual params body scope [] [] f fd) (S : FnScope [a0, a1] [a0, a1] scope) (hbd : body = [.Return (some (.Subscript (.Name a1 p1) e2 p2)) p3]) (hb : Binds K fd [a0, a1] []) (hpl : PlainIx e2) (hk1 : scope.names.lookup a1 = some .local) (hd1 : (a1 == ("__debug__" : Str)) = false) (hc1 : (a1 == ("__classdict__" : Str)) = false)
    (hx : ∀ (cdv : Value) (A : Around) (outer : List Env) (s : Shared) (H : Hp) (E : XK) (b a : Addr) (o : Obj) (xs : List V) (Q : VK), Room k (A.deeper (envOfC qual scope s.heap.objs.size f cdv)) → Bag H b → H a = some (.frz o (.lst xs)) → a ≠ b → 0 < xs.length → xs.length < 1000 → (∀ (d : Int) H', 0 ≤ d → d < xs.length → Sx [b] H H' → Bag H' b → Q (.int d) H') →
      ∃ tb, PE (cxOf (L2.CX P w) P w K mg base [a0, a1] qual scope f cdv A outer s H E) e2 tb ∧ tb (start [a0, a1] [.ref b, .ref a]) H Q) : OfRun P w K mg base (k + 1) f := by
  intro A outer s H b a o us xs Q E hr e0 hB ha hcl hdt rv hne h0 h1 kk
  obtain ⟨oc, od, dV, kV, doc, pm, an, cdv, ct, osl, rfl, lk, hcd, _, _⟩ := F.ex
  subst hbd
  have KX : K.In s.heap := e0.mod.kin.keeps fun b o e => (e0.bs b o e).1
  have lim : s.heap.NoLimit := e0.mod.nolimit.keeps fun b o e => (e0.bs b o e).1
  have r : Vals [V.ref b, .ref a] [Value.ref b, .ref a] := .cons rfl (.cons rfl .nil)
  have hkind : ∀ y ∈ [a0, a1].zip [Value.ref b, .ref a], scope.names.lookup y.1 = some .local ∨ (scope.names.lookup y.1 = some .cell ∧ ((cellsFrom (s.heap.objs.size + 1) scope.names []).lookup y.1).isSome = true) := fun ⟨n, v⟩ hy =>
    (S.par n (List.of_mem_zip hy).1).imp id fun q => ⟨q, PySem.W.cellsFrom_some _ _ _ (.inl q)⟩
  have hb2 := hb s [.ref b, .ref a] KX rfl
  refine codeAny_call_function hr.depth (KX _ _ lk) rfl S.co S.gen rfl (PySem.W.codeRec_of KX hcd) (hb2 _ _ _ _ ?_)
  refine wpAny_newFunctionEnv_cells S.kind hkind fun env he s1 z => ?_
  subst he
  refine ⟨lim.keeps z.toInCall.keep, codeAny_func ?_⟩
  have I : Inv (cxOf (L2.CX P w) P w K mg base [a0, a1] qual scope f cdv A outer s H E) [] (start [a0, a1] [.ref b, .ref a]) H s1 := inv_start S hr.hd e0 rfl r z
  obtain ⟨tb, ht, hq⟩ := hx cdv A outer s H E b a o xs (fun v H' => ∃ d : Int, v = .int d ∧ 0 ≤ d ∧ d < xs.length ∧ Sx [b] H H' ∧ Bag H' b) (hr.deeper _) hB ha hne h0 h1 fun d H' d0 d1 s1 b1 => ⟨d, rfl, d0, d1, s1, b1⟩
  refine wpAny_execs_cons (wpAny_Return_some (Subscript_ (raw_name (i := 1) (X := cxOf (L2.CX P w) P w K mg base [a0, a1] qual scope f cdv A outer s H E) rfl (.inl hk1) I rfl (fun v rv1 => ?_) hd1 hc1)))
  have ev : v = Value.ref a := rv1
  subst ev
  refine wpAny_mono (ht.run [] s1 _ H _ I hq) (fun u s2 h2 => ?_) fun e s' hs => hs
  obtain ⟨v, H2, I2, ri, d, rfl, d0, d1, sx, b2⟩ := h2
  obtain ⟨ti, rfl⟩ := ri
  have ha2 : H2 a = some (.frz o (.lst xs)) := sx.get1 hne ha
  have hobj : s2.heap.get? a = some o := (I2.hok a _ ha2).1
  have hl : s2.heap.IsList a us.toArray := ⟨o, hobj, hcl, 0, hdt⟩
  have hlen := rv.length
  have hd : d.toNat < us.length := by omega
  obtain ⟨y, hy1, hy2⟩ : ∃ y, xs[d.toNat]? = some y ∧ RelV y us[d.toNat] := by
    have hd' : d.toNat < xs.length := by omega
    obtain ⟨u, e1, e2⟩ := rv.get (List.getElem?_eq_getElem hd')
    rw [List.getElem?_eq_getElem hd] at e1
    exact ⟨_, List.getElem?_eq_getElem hd', by rw [Option.some.inj e1]; exact e2⟩
  refine item_listR (x := us[d.toNat]) hl d0 (by omega) (by simp [List.getElem?_eq_getElem hd]) ?_ (hpl _ _)
  exact ⟨List.getElem_mem _, y, H2, I2.os, I2.bare, I2.base, I2.hok, hy2, kk y H2 (List.mem_of_getElem? hy1) sx b2⟩
section
variable {X : Cx}
/-- written texts as arguments: each has a token -/
def PAC (X : Cx) (es : List Expr) (cs : List Str) : Prop :=
  ∀ (pos : Pos) (s : Shared) (Q : List Value → Shared → Prop) (E : Value → Shared → Prop), 1 ≤ s.toks → (∀ us tk, s.toks ≤ tk → Vals (cs.map V.str) us → (∀ u ∈ us, TkV u) → Q us { s with toks := tk }) → wpAny (model X.prog X.w) X.A (spliced (backTo pos (starEach es X.env))) Q E s
theorem pac_nil : PAC X [] [] := fun _ s _ _ _ h => Calls.spliced_nil (h [] s.toks (Nat.le_refl _) .nil fun _ z => nomatch z)
theorem pac_cons {c : Str} {j : Nat} {p : Pos} {es : List Expr} {cs : List Str} (hr : PAC X es cs) (hs : starEach (.Constant (.str c) j p :: es) X.env = (false, eval (.Constant (.str c) j p) X.env) :: starEach es X.env := by rfl) : PAC X (.Constant (.str c) j p :: es) (c :: cs) := fun pos s Q E h1 h => by
  rw [hs]
  show wpAny _ _ (spliced ((false, eval (.Constant (.str c) j p) X.env) :: backTo pos (starEach es X.env))) _ _ s
  refine Calls.spliced_cons (Calls.Constant_str (hr pos { s with toks := s.toks + 1 } _ _ (Nat.le_succ_of_le h1) fun us tk ht rv hu => ?_))
  refine h (.str c s.toks :: us) tk (Nat.le_of_succ_le ht) (.cons ⟨_, rfl⟩ rv) fun u hm => ?_
  rcases List.mem_cons.mp hm with rfl | hm
  · exact ⟨c, s.toks, rfl, Nat.ne_of_gt h1⟩
  · exact hu u hm
/-- x = f(bag, [written texts]) -/
def tOfC (ib i : Nat) (cs : List Str) (u : TS) : TS := fun D σ H => ∃ b, σ[ib]? = some (some (.ref b)) ∧ Bag H b ∧ ∀ c H', c ∈ cs → Ed [b] H H' → Bag H' b → u D (σ.set i (some (.str c))) H'
theorem psr_of {k ib i : Nat} {f : Addr} {W : WX} {fx nb x : Str} {es : List Expr} {cs : List Str} {rest : List Stmt} {u : TS} {pf pb pl p' pos cpos : Pos} (R : OfRun X.prog X.w X.K X.mg X.base k f) (hm : X.mg fx = some (.ref f)) (hk : PySem.W.keepIn X.K (.ref f) = true) (tk : Takes X W) (hr : Room k X.A) (nd : X.N.Nodup)
    (hc : PAC X es cs) (h2 : PSsR X (TokAt X x) rest u) (hlen : 0 < cs.length ∧ cs.length < 1000 := by decide) (hg : Gl X fx := by rfl) (hNb : X.N[ib]? = some nb := by rfl) (hi : X.N[i]? = some x := by rfl) (hkx : X.env.scope.names.lookup x = some .local := by rfl) (hvb : Vis X.env.scope nb := by first | exact .inl rfl | exact .inr (.inl rfl))
    (hdb : (fx == ("__debug__" : Str)) = false := by decide) (hd1 : (nb == ("__debug__" : Str)) = false := by decide) (hc1 : (nb == ("__classdict__" : Str)) = false := by decide)
    (he : starEach [.Name nb pb, .List es pl] X.env = (false, eval (.Name nb pb) X.env) :: starEach [.List es pl] X.env := by rfl) (he2 : starEach [.List es pl] X.env = (false, eval (.List es pl) X.env) :: starEach [] X.env := by rfl) (hpl : (backTo cpos (starEach [.List es pl] X.env)).any (·.1) = false := by rfl)
    (hs : swapsWith (.Call (.Name fx pf) [.Name nb pb, .List es pl] [] cpos) (some (.Name x p')) pos.line X.env = pure false := by rfl) :
    PSsR X (fun s => 1 ≤ s.toks) (.Assign [.Name x p'] (.Call (.Name fx pf) [.Name nb pb, .List es pl] [] cpos) pos :: rest) (tOfC ib i cs u) := fun pins s σ H D I ρ h => by
  obtain ⟨b, hb, hB, kk⟩ := h
  have key : wpAny (model X.prog X.w) X.A (eval (.Call (.Name fx pf) [.Name nb pb, .List es pl] [] cpos) X.env) (fun v s' => ∃ H3 c, Inv X pins σ H3 s' ∧ RelV (.str c) v ∧ TkV v ∧ c ∈ cs ∧ Ed [b] H H3 ∧ Bag H3 b) X.xe s := by
    refine wpAny_Call_Name_kw (ld_glob I hg hm ?_ hdb)
    refine PySem.W.callWith_K (h₀ := X.base) I.ok.mod.kin hk ?_ he hpl
    rw [he]
    refine Calls.spliced_cons (raw_name hNb hvb I hb (fun v rv => ?_) hd1 hc1)
    have ev : v = Value.ref b := rv
    subst ev
    show wpAny _ _ (spliced (backTo cpos (starEach [.List es pl] X.env))) _ _ _
    rw [he2]
    refine Calls.spliced_cons (wpAny_List_spliced (hc pl s _ _ ρ fun us t1 ht rv hu => ?_))
    have hz : us.length ≤ sizeLine := by
      have h0 : us.length = cs.length := by rw [← rv.length, List.length_map]
      have h1 := sizeLine_eq
      omega
    refine ⟨hz, ?_⟩
    refine Calls.spliced_nil ?_
    have kp : ∀ d u, s.heap.get? d = some u → (s.heap.push { cls := .type "list", data := .seq us.toArray 0 }).get? d = some u := fun d u e => Heap.get?_push_of_some _ e
    have hf : H s.heap.objs.size = none := I.hok.fresh (Nat.le_refl _)
    have I2 : Inv X pins σ (upd H s.heap.objs.size (.frz { cls := .type "list", data := .seq us.toArray 0 } (.lst (cs.map V.str)))) { s with heap := s.heap.push { cls := .type "list", data := .seq us.toArray 0 }, toks := t1 } :=
      I.laid (t' := t1) kp (Nat.le_refl _) ⟨Heap.get?_push_size _ rfl, by rw [rv.length]; exact hz, us, 0, rv, Heap.get?_push_size _ rfl⟩
    have hne : s.heap.objs.size ≠ b := fun z => by
      rw [← z] at hB
      obtain ⟨_, _, e⟩ := hB
      rw [hf] at e
      cases e
    have eN : Ed [b] H (upd H s.heap.objs.size (.frz { cls := .type "list", data := .seq us.toArray 0 } (.lst (cs.map V.str)))) := ⟨fun a o _ e => by rw [upd_ne (ne_of_none e hf)]; exact e, fun a z => by
      by_cases q : a = s.heap.objs.size
      · rw [q, upd_same]; exact fun z => nomatch z
      · rw [upd_ne q]; exact z⟩
    refine ⟨I2.kIn, wpAny_call (codeAny_mono (R X.A X.stack _ _ b s.heap.objs.size { cls := .type "list", data := .seq us.toArray 0 } us (cs.map V.str) (fun v H' => ∃ c, v = .str c ∧ c ∈ cs ∧ Ed [b] H H' ∧ Bag H' b) (WE W σ) hr I2.env0 (hB.new hf) upd_same rfl rfl rv hne (by rw [List.length_map]; exact hlen.1) (by rw [List.length_map]; exact hlen.2) fun v H' hv sx b2 => ?_) fun r s' hq => ?_)⟩
    · obtain ⟨c, hc, rfl⟩ := List.mem_map.mp hv
      exact ⟨c, rfl, hc, eN.tr (Ed.sx sx fun a z => by rw [List.mem_singleton.mp z]; exact b2.alive) fun _ z => .inl z, b2⟩
    · cases r with
      | error e => exact passAt tk σ pins _ _ e s' I2 hq
      | ok fl =>
        cases fl with
        | ret v =>
          obtain ⟨hv, hq⟩ := hq
          obtain ⟨w, H3, I3, r3, c, rfl, hc, e3, b3⟩ := I2.after hq
          exact ⟨H3, c, I3, r3, hu v hv, hc, e3, b3⟩
        | next => exact False.elim hq
        | brk => exact False.elim hq
        | cont => exact False.elim hq
  refine wpAny_execs_cons (wpAny_Assign_Name (wpAny_mono (PySem.wpAny_toks key) (fun v s1 q => ?_) fun _ _ z => z.2) hs)
  obtain ⟨ht, H3, c, I3, r3, ⟨y, t, rfl, h0⟩, hc, e3, b3⟩ := q
  refine store_map I3 nd hi hkx r3 fun s4 I4 t4 hm4 => ?_
  obtain ⟨m0, hn0, _⟩ := I3.loc
  exact h2 pins s4 _ H3 D I4 ⟨Nat.le_trans ρ (Nat.le_trans ht (Nat.le_of_succ_le t4)), _, y, t, hm4 m0 hn0, if_pos rfl, h0⟩ (kk c H3 hc e3 b3)
end
/-- a drawing def of the module -/
structure OfC (P : Program) (w : World) (K : PySem.W.Frag) (mg : Str → Option Value) (base : Heap) (k : Nat) (x : Str) : Prop where
  ex : ∃ f, mg x = some (.ref f) ∧ PySem.W.keepIn K (.ref f) = true ∧ OfRun P w K mg base k f
theorem psr_ofC {X : Cx} {k ib i : Nat} {W : WX} {fx nb x : Str} {es : List Expr} {cs : List Str} {rest : List Stmt} {u : TS} {pf pb pl p' pos cpos : Pos} (C : OfC X.prog X.w X.K X.mg X.base k fx) (tk : Takes X W) (hr : Room k X.A) (nd : X.N.Nodup)
    (hc : PAC X es cs) (h2 : PSsR X (TokAt X x) rest u) (hlen : 0 < cs.length ∧ cs.length < 1000 := by decide) (hg : Gl X fx := by rfl) (hNb : X.N[ib]? = some nb := by rfl) (hi : X.N[i]? = some x := by rfl) (hkx : X.env.scope.names.lookup x = some .local := by rfl) (hvb : Vis X.env.scope nb := by first | exact .inl rfl | exact .inr (.inl rfl))
    (hdb : (fx == ("__debug__" : Str)) = false := by decide) (hd1 : (nb == ("__debug__" : Str)) = false := by decide) (hc1 : (nb == ("__classdict__" : Str)) = false := by decide)
    (he : starEach [.Name nb pb, .List es pl] X.env = (false, eval (.Name nb pb) X.env) :: starEach [.List es pl] X.env := by rfl) (he2 : starEach [.List es pl] X.env = (false, eval (.List es pl) X.env) :: starEach [] X.env := by rfl) (hpl : (backTo cpos (starEach [.List es pl] X.env)).any (·.1) = false := by rfl)
    (hs : swapsWith (.Call (.Name fx pf) [.Name nb pb, .List es pl] [] cpos) (some (.Name x p')) pos.line X.env = pure false := by rfl) :
    PSsR X (fun s => 1 ≤ s.toks) (.Assign [.Name x p'] (.Call (.Name fx pf) [.Name nb pb, .List es pl] [] cpos) pos :: rest) (tOfC ib i cs u) := by
  obtain ⟨f, h1, h2', h3⟩ := C.ex
  exact psr_of h3 h1 h2' tk hr nd hc h2 hlen hg hNb hi hkx hvb hdb hd1 hc1 he he2 hpl hs
theorem g_ofC {ib i : Nat} {cs : List Str} {u : TS} {D : Ends} {σ : L2.St} {H : Hp} {b : Addr} (hb : σ[ib]? = some (some (.ref b))) (hB : Bag H b) (k : ∀ c H', c ∈ cs → Ed [b] H H' → Bag H' b → u D (σ.set i (some (.str c))) H') : tOfC ib i cs u D σ H := ⟨b, hb, hB, k⟩
/-! ### str(e), e an object of an own class with __str__ -/
section
variable {X : Cx} {k : Nat} {C : Addr} {a : Expr} {ta : TE} {p pos : Pos} {ps : List Str} {sp : Sp} {W : WX}
theorem run_in2 {f : Addr} {fd : FuncData} {pins : List (Addr × Obj)} {σ : L2.St} {H : Hp} {s : Shared} {Q : VK} {us : List Value} {vs : List V} (F : FnOk X.prog X.w X.K X.mg X.base (L2.CX X.prog X.w) k f fd ps sp) (hr : Room (k + 2) X.A) (hb : Binds X.K fd ps []) (tk : Takes X W) (I : Inv X pins σ H s) (r : Vals vs us)
    (h : sp vs H Q (WE W σ)) : wpAny (model X.prog X.w) X.A.in1.in1 (call (.ref f) us) (EP X pins σ Q) X.xe s := by
  have hl : us.length = ps.length := by rw [← r.length]; exact F.len _ _ _ _ h
  have b2 := hb s us I.kIn (by rw [List.append_nil]; exact hl)
  rw [List.append_nil] at b2
  refine wpAny_call (codeAny_mono (F.run X.A.in1.in1 X.stack s H ⟨us, []⟩ us vs Q (WE W σ) hr.in1.in1 I.env0.in1.in1 b2 r h) fun r s' hq => ?_)
  cases r with
  | error e => exact passAt tk σ pins _ _ e s' I hq
  | ok fl =>
    cases fl with
    | ret u => exact I.after hq
    | next => exact False.elim hq
    | brk => exact False.elim hq
    | cont => exact False.elim hq
def tStrO (C : Addr) (sp : Sp) (E : L2.St → XK) (ta : TE) : TE := fun σ H Q => ta σ H fun x H1 => ∃ c dx fs, x = .ref c ∧ H1 c = some (.ins C dx fs) ∧ sp [.ref c] H1 (fun v H2 => ∃ t, v = .str t ∧ Q (.str t) H2) (E σ)
theorem q_strO (M : MtC X.prog X.w X.K X.mg X.base k C "__str__" ps sp) (tk : Takes X W) (hr : Room (k + 2) X.A) (ha : PE X a ta) (hm : X.mg "str" = none) (hg : Gl X "str" := by rfl) (he : starEach [a] X.env = (false, eval a X.env) :: starEach [] X.env := by rfl) (hpl : (backTo pos (starEach [] X.env)).any (·.1) = false := by rfl) :
    PE X (.Call (.Name "str" p) [a] [] pos) (tStrO C sp (WE W) ta) := by
  obtain ⟨f, fd, mt, fnI, hb, F⟩ := M.fn
  refine ⟨fun pins s σ H Q I h => ?_⟩
  refine wpAny_Call_Name_kw (ld_blt I hg hm rfl ?_ (by decide) (by decide))
  refine PyProof.Rows.callWith_type1 (thn ((pa_cons ha pa_nil he).run pos pins s σ H (fun vs H1 => ∃ c dx fs, vs = [.ref c] ∧ H1 c = some (.ins C dx fs) ∧ sp [.ref c] H1 (fun v H2 => ∃ t, v = .str t ∧ Q (.str t) H2) (WE W σ)) I ?_) fun us s1 q => ?_) he hpl
  · show ta σ H fun v H1 => ∃ c dx fs, [v] = [.ref c] ∧ _
    have e : (fun v H1 => ∃ c dx fs, [v] = [V.ref c] ∧ H1 c = some (.ins C dx fs) ∧ sp [.ref c] H1 (fun v H2 => ∃ t, v = .str t ∧ Q (.str t) H2) (WE W σ)) = fun x (H1 : Hp) => ∃ c dx fs, x = .ref c ∧ H1 c = some (.ins C dx fs) ∧ sp [.ref c] H1 (fun v H2 => ∃ t, v = .str t ∧ Q (.str t) H2) (WE W σ) := by
      funext x H1
      simp only [List.cons.injEq, and_true]
    rw [e]
    exact h
  · obtain ⟨vs, H1, I1, r, c, dx, fs, rfl, hc, q⟩ := q
    obtain ⟨u, rfl, rx⟩ := vals1 r
    obtain rfl : u = Value.ref c := rx
    obtain ⟨od, J⟩ := inst_of I1 hc
    have fr := run_in2 (us := [.ref c]) (vs := [.ref c]) (W := W) F hr hb tk I1 (.cons rfl .nil) q
    refine PySem.W.kso_call (by have := hr.in1.in1.units; omega) I1.kIn J mt.at_ mt.fn ?_
    refine wpAny_mono fr (fun v s' hv => ?_) fun _ _ e => e
    obtain ⟨z, H', I', rz, t, ez, qz⟩ := hv
    subst ez
    obtain ⟨tk, rfl⟩ := rz
    exact ⟨.str t, H', I', ⟨tk, rfl⟩, qz⟩
theorem g_strO {E : L2.St → XK} {σ : L2.St} {H : Hp} {Q : VK} (h : ta σ H fun x H1 => ∃ c dx fs, x = .ref c ∧ H1 c = some (.ins C dx fs) ∧ sp [.ref c] H1 (fun v H2 => ∃ t, v = .str t ∧ Q (.str t) H2) (E σ)) : tStrO C sp E ta σ H Q := h
end
theorem m_clear {X : Cx} : MtR X "list.clear" rClear := mt_clear
theorem g_clear {H : Hp} {Q : VK} {l : Addr} {xs : List V} (h : H l = some (.lst xs)) (k : Q .non (upd H l (.lst []))) : rClear (.ref l) [] H Q := ⟨l, xs, rfl, rfl, h, k⟩
end NL
/-! Sets of texts: made by a comprehension, sorted. -/
namespace NL
open PySem PySem.Spec PyProof.Rows L2 PpSet
def keyT (e : Int × Value) : Str := match e.2 with | .str k _ => k | _ => ""
def GoodT (w : World) (e : Int × Value) : Prop := ∃ k t, e.2 = Value.str k t ∧ e.1 = hashStr w k
/-- a set of texts: S its members, n their number; it can be walked -/
def SetT (w : World) (h : Heap) (a : Addr) (S : Str → Bool) (n : Nat) : Prop :=
  ∃ o es ep t, h.get? a = some o ∧ o.ExactSet ∧ o.data = .set es ep t ∧ (∀ e ∈ es.toList, GoodT w e) ∧ (es.toList.map keyT).Nodup ∧ (∀ k, S k = true ↔ k ∈ es.toList.map keyT) ∧
    es.size < scanBound ∧ t.fits es.size = true ∧ es.size = n ∧ Ris t.place.toList ∧ (w.params.followText "set-order" = true ∨ t.led = true)
section
variable {P : Program} {w : World} {A : Around} {E : Value → Shared → Prop} {s : Shared} {h h' : Heap} {a : Addr} {S : Str → Bool} {n : Nat}
theorem SetT.at (R : SetT w h a S n) (k : ∀ o, h.get? a = some o → h'.get? a = some o) : SetT w h' a S n := by
  obtain ⟨o, es, ep, t, ho, r⟩ := R
  exact ⟨o, es, ep, t, k o ho, r⟩
theorem isT (k : Str) (u : Tok) : (PySem.strKind P w).is k (.str k u) = true := by
  show Value.isStrOf k (.str k u) = true
  simp [Value.isStrOf]
theorem goodT_is {e : Int × Value} (g : GoodT w e) (k : Str) : (PySem.strKind P w).is k e.2 = true ↔ keyT e = k := by
  obtain ⟨k0, t, h1, _⟩ := g
  unfold keyT
  rw [h1]
  exact ⟨fun z => ((PySem.strKind P w).inj _ _ _ z (isT k0 t)).symm, fun z => by subst z; exact isT k0 t⟩
theorem goodT_elems {l : List (Int × Value)} (g : ∀ e ∈ l, GoodT w e) : ElemsOf (PySem.strKind P w) l := fun e he => by
  obtain ⟨k, t, h1, h2⟩ := g e he
  exact ⟨⟨k, by rw [h1]; exact isT k t, h2⟩, by rw [h1] <;> rfl⟩
theorem goodT_mem {l : List (Int × Value)} (g : ∀ e ∈ l, GoodT w e) (k : Str) : k ∈ l.map keyT ↔ ∃ e ∈ l, (PySem.strKind P w).is k e.2 = true := by
  rw [List.mem_map]
  exact ⟨fun ⟨e, he, q⟩ => ⟨e, he, (goodT_is (g e he) k).2 q⟩, fun ⟨e, he, q⟩ => ⟨e, he, (goodT_is (g e he) k).1 q⟩⟩
theorem SetT.setOf (R : SetT w h a S n) : h.SetOf (PySem.strKind P w) a S n := by
  obtain ⟨o, es, ep, t, ho, hx, hd, g, nd, hm, hb, hf, hn, _⟩ := R
  exact ⟨o, es, ep, t, ho, hx, hd, goodT_elems g, fun k => (hm k).trans (goodT_mem g k), hb, hf, hn⟩
theorem setT_fresh {h : Heap} (w : World) : SetT w (h.push { cls := .type "set", dict := none, data := .set #[] 0 (.fresh 0 0 (!w.params.followText "set-order")) }) h.objs.size (fun _ => false) 0 :=
  ⟨_, #[], 0, _, Heap.get?_push_size _ rfl, ⟨rfl, rfl, rfl⟩, rfl, (fun e he => by simp at he), (by simp), (fun k => by simp), (by decide), (by rfl), rfl, List.Pairwise.nil, by
    show _ ∨ (!w.params.followText "set-order") = true
    cases w.params.followText "set-order"
    · exact .inr rfl
    · exact .inl rfl⟩
/-- behind the laying of a new one: stored, and relaid when the table is too full -/
theorem setT_tail {g : Bool → Sem Unit} (hg : ∀ (b : Bool) (s₁ : Shared) (Q' : Unit → Shared → Prop), Q' () s₁ → wpAny (model P w) A (g b) Q' E s₁)
    {o : Obj} {es : Array (Int × Value)} {ep : Nat} {t : SetTable} (ho : s.heap.get? a = some o) (hex : o.ExactSet) (hd : o.data = .set es ep t)
    {es1 : Array (Int × Value)} {t2 : SetTable} {S' : Str → Bool} (g1 : ∀ e ∈ es1.toList, GoodT w e) (nd1 : (es1.toList.map keyT).Nodup) (m1 : ∀ k, S' k = true ↔ k ∈ es1.toList.map keyT)
    (hb1 : es1.size < scanBound) (hf2 : t2.fits es1.size = true) (hr : Ris t2.place.toList) (hl : w.params.followText "set-order" = true ∨ t2.led = true) {wasDummy : Bool} {R : Option Bool → Shared → Prop}
    (hR : ∀ h', Heap.SameBut a s.heap h' → SetT w h' a S' es1.size → R (some true) { s with heap := h' }) :
    wpAny (model P w) A (do
        storeSet a es1 t2
        if (!wasDummy && t2.tooFull) = true then do
            g (relayAll t2 es1 (SetTable.grown es1.size)).2.2
            storeSet a (relayAll t2 es1 (SetTable.grown es1.size)).1 (relayAll t2 es1 (SetTable.grown es1.size)).2.1
            pure (some true)
          else pure (some true)) R E s := by
  refine wpAny_bind (wpAny_storeSet_of ho hd ?_ (fits_of_scanBound hb1))
  have ho1 := storeB_at (es' := es1) (t' := t2) ho hd
  have sb1 := Heap.SameBut.update s.heap a (Obj.putSet es1 t2)
  split
  · have pm := relayAll_perm t2 es1 (SetTable.grown es1.size)
    have hf3 := relayAll_fits t2 es1 (SetTable.grown es1.size)
    have hr3 := relayAll_ris t2 es1 (SetTable.grown es1.size)
    have hl3 := relayAll_led t2 es1 (SetTable.grown es1.size)
    generalize relayAll t2 es1 (SetTable.grown es1.size) = Z at pm hf3 hr3 hl3 ⊢
    obtain ⟨es2, t3, gave⟩ := Z
    dsimp only at pm hf3 hr3 hl3 ⊢
    have hsz : es2.size = es1.size := by rw [← Array.length_toList, pm.length_eq, Array.length_toList]
    have hb2 : es2.size < scanBound := by rw [hsz]; exact hb1
    refine wpAny_bind (hg _ _ _ ?_)
    refine wpAny_bind (wpAny_storeSet_of ho1 rfl ?_ (fits_of_scanBound hb2))
    have ho2 := storeB_at (es' := es2) (t' := t3) ho1 rfl
    exact wpAny_pure (hR _ (sb1.trans (Heap.SameBut.update _ a _)) ⟨_, es2, _, t3, ho2, hex, rfl, fun e he => g1 e (pm.mem_iff.mp he), (pm.map keyT).nodup_iff.mpr nd1, fun k => (m1 k).trans (pm.map keyT).mem_iff.symm, hb2, hf3, hsz, hr3, hl.imp id fun z => by rw [hl3]; exact z⟩)
  · exact wpAny_pure (hR _ sb1 ⟨_, es1, _, t2, ho1, hex, rfl, g1, nd1, m1, hb1, hf2, rfl, hr, hl⟩)
theorem setT_hashed {k : Str} {u : Tok} {Q : Bool → Shared → Prop} (R : SetT w s.heap a S n) (room : n + 1 < scanBound)
    (hQ : ∀ h', Heap.SameBut a s.heap h' → SetT w h' a (fun j => S j || decide (j = k)) (if S k = true then n else n + 1) → Q (!S k) { s with heap := h' }) :
    wpAny (model P w) A (setAddHashed a (.str k u) (hashStr w k)) Q E s := by
  obtain ⟨o, es, ep, t, ho, hex, hd, g, nd, hm, hb, hf, hn, hr, hl⟩ := R
  have hkey : (PySem.strKind P w).is k (.str k u) = true := isT k u
  have hsc : (Value.str k u).scannable = true := rfl
  have hel : ElemsOf (PySem.strKind P w) es.toList := goodT_elems g
  unfold setAddHashed setAddHashedIn
  refine wpAny_holding (wpAny_bind (wpAny_setState_of ho hd hf ?_))
  dsimp only
  rw [byScan_of hsc hb hel]
  simp only [↓reduceIte]
  unfold setAddByScan
  refine wpAny_bind ?_
  refine wpAny_bind (wpAny_rule ?_)
  refine wpAny_bind (wpAny_setScan_of hkey ho hd hf hel ?_)
  have hin : S k = true ↔ ∃ j, List.findIdx? (fun e => (PySem.strKind P w).is k e.2) es.toList = some j := by
    rw [hm k, goodT_mem (P := P) g k]
    constructor
    · rintro ⟨e, he, q⟩
      cases c : List.findIdx? (fun e => (PySem.strKind P w).is k e.2) es.toList with
      | some j => exact ⟨j, rfl⟩
      | none =>
        have z := List.findIdx?_eq_none_iff.mp c e he
        rw [q] at z
        cases z
    · rintro ⟨j, c⟩
      obtain ⟨hj, pj, _⟩ := List.findIdx?_eq_some_iff_getElem.mp c
      exact ⟨es.toList[j], List.getElem_mem hj, pj⟩
  cases hfi : List.findIdx? (fun e => (PySem.strKind P w).is k e.2) es.toList with
  | some j =>
    dsimp only
    have hSk : S k = true := hin.mpr ⟨j, hfi⟩
    refine wpAny_pure (wpAny_pure ?_)
    have q := hQ s.heap (Heap.SameBut.refl a s.heap) ⟨o, es, ep, t, ho, hex, hd, g, nd, fun i => by
      rw [Bool.or_eq_true, decide_eq_true_eq, ← hm i]
      exact ⟨fun z => z.elim id (fun e => e ▸ hSk), .inl⟩, hb, hf, by rw [if_pos hSk]; exact hn, hr, hl⟩
    rw [hSk] at q
    exact q
  | none =>
    dsimp only
    have hSk : S k = false := by
      cases q : S k with
      | false => rfl
      | true =>
        obtain ⟨j, c⟩ := hin.mp q
        rw [hfi] at c
        cases c
    have hnk : k ∉ es.toList.map keyT := fun z => by
      rw [(hm k).mpr z] at hSk
      cases hSk
    have hgw : ∀ (b : Bool) {s₁ : Shared} {Q' : Unit → Shared → Prop}, Q' () s₁ → wpAny (model P w) A (match b with | true => rule "set.scan.the-table-gave-way" | false => pure ()) Q' E s₁ :=
      fun b s₁ Q' q => by cases b <;> first | exact wpAny_pure q | exact wpAny_rule q
    have pm := layNew_perm t es (hashStr w k) (.str k u)
    have hf1 := layNew_fits t es (hashStr w k) (.str k u)
    have hr1 := layNew_ris t es (hashStr w k) (.str k u) hr
    have hl1 := layNew_led t es (hashStr w k) (.str k u)
    generalize layNew t es (hashStr w k) (.str k u) = Z at pm hf1 hr1 hl1 ⊢
    obtain ⟨es1, t1, wasDummy, gave⟩ := Z
    dsimp only at pm hf1 hr1 hl1 ⊢
    rw [Array.toList_push] at pm
    have pc : es1.toList.Perm ((hashStr w k, Value.str k u) :: es.toList) := pm.trans (List.perm_append_singleton _ _)
    have pk : (es1.toList.map keyT).Perm (k :: es.toList.map keyT) := pc.map keyT
    have g1 : ∀ e ∈ es1.toList, GoodT w e := fun e he => by
      rcases List.mem_cons.mp (pc.mem_iff.mp he) with z | z
      · rw [z]; exact ⟨k, u, rfl, rfl⟩
      · exact g e z
    have nd1 : (es1.toList.map keyT).Nodup := pk.nodup_iff.mpr (List.nodup_cons.mpr ⟨hnk, nd⟩)
    have m1 : ∀ i, (S i || decide (i = k)) = true ↔ i ∈ es1.toList.map keyT := fun i => by
      rw [Bool.or_eq_true, decide_eq_true_eq, hm i, pk.mem_iff, List.mem_cons]
      exact Or.comm
    have hsz : es1.size = n + 1 := by rw [← Array.length_toList, pc.length_eq, List.length_cons, Array.length_toList, hn]
    have hb1 : es1.size < scanBound := by rw [hsz]; exact room
    have hled : w.params.followText "set-order" = true ∨ t1.led = true := hl.imp id fun z => by rw [hl1]; exact z
    have fin : ∀ h', Heap.SameBut a s.heap h' → SetT w h' a (fun j => S j || decide (j = k)) es1.size → Q true { s with heap := h' } := fun h' sb r => by
      have q := hQ h' sb
      rw [hSk] at q
      rw [hsz] at r
      exact q r
    refine wpAny_bind (hgw _ ?_)
    split
    · refine wpAny_bind ?_
      rw [hashByValue_scannable 8 hsc]
      refine wpAny_pure ?_
      refine setT_tail ?_ ho hex hd g1 nd1 m1 hb1 ?_ ?_ ?_ ?_
      · intro b s₁ Q' q; cases b <;> first | exact wpAny_pure q | exact wpAny_rule q
      · first | (split <;> first | exact hf1 | exact SetTable.fits_plain_off hf1) | exact hf1
      · first | (split <;> exact hr1) | exact hr1
      · first | (split <;> exact hled) | exact hled
      · intro h' sb r; dsimp only; exact wpAny_pure (fin h' sb r)
    · refine wpAny_bind (wpAny_pure ?_)
      simp only [↓reduceIte]
      refine setT_tail ?_ ho hex hd g1 nd1 m1 hb1 hf1 hr1 hled ?_
      · intro b s₁ Q' q; cases b <;> first | exact wpAny_pure q | exact wpAny_rule q
      · intro h' sb r; dsimp only; exact wpAny_pure (fin h' sb r)
theorem setT_add {k : Str} {u : Tok} {Q : Value → Shared → Prop} (R : SetT w s.heap a S n) (room : n + 1 < scanBound)
    (hQ : ∀ h', Heap.SameBut a s.heap h' → SetT w h' a (fun j => S j || decide (j = k)) (if S k = true then n else n + 1) → Q .none { s with heap := h', toks := s.toks + 1 }) :
    wpAny (model P w) A (call (.builtin "set.add") [.ref a, .str k u]) Q E s := by
  have hS : s.heap.SetOf (PySem.strKind P w) a S n := R.setOf
  refine wpAny_call_entry F.slot_set_add hS.typeIs F.entry_set_add ?_ (F.args_set_add_2 _ _)
  unfold Builtin.«set.add» Builtin.Frozenset.oneOther
  simp only [List.isEmpty_nil, bind_assoc]
  unfold Builtin.Frozenset.addrOf setAdd
  refine wpAny_bind (wpAny_pure ?_)
  try dsimp only
  refine wpAny_bind (wpAny_pure ?_)
  try dsimp only
  refine wpAny_bind ?_
  refine wpAny_holding ?_
  refine wpAny_bind ((PySem.strKind P w).pyHash (isT k u) ?_)
  refine setT_hashed (s := { s with toks := s.toks + 1 }) R room fun h' sb r => ?_
  show wpAny _ _ (ret Value.none) _ _ _
  exact wpAny_pure ⟨_, rfl, hQ h' sb r⟩
end
/-! ### as tracked things -/
def SetTO (w : World) (a : Addr) (S : Str → Bool) (n : Nat) : HO := .ext fun h => SetT w h a S n
theorem setTO_new {w : World} {P : Program} {H : Hp} {h : Heap} {a : Addr} {S : Str → Bool} {n : Nat} (R : SetT w h a S n) : ObjOk P w H h a (SetTO w a S n) := by
  have ⟨o, _, _, _, ho, _⟩ := R
  exact ⟨R, ⟨o, ho⟩, fun h1 h2 p k => SetT.at p k⟩
section
variable {X : Cx}
theorem setTO_get {pins : List (Addr × Obj)} {σ : L2.St} {H : Hp} {s : Shared} {a : Addr} {S : Str → Bool} {n : Nat} (I : Inv X pins σ H s) (ha : H a = some (SetTO X.w a S n)) : SetT X.w s.heap a S n := (I.hok a _ ha).1
theorem addT_ok {pins : List (Addr × Obj)} {σ : L2.St} {H : Hp} {s : Shared} {E : Value → Shared → Prop} {D : Addr} {S : Str → Bool} {n : Nat} {y : Str} {u : Tok} {Q : Value → Shared → Prop} (I : Inv X pins σ H s) (hD : H D = some (SetTO X.w D S n)) (room : n + 1 < scanBound)
    (h : ∀ s', Inv X pins σ (upd H D (SetTO X.w D (fun j => S j || decide (j = y)) (if S y = true then n else n + 1))) s' → Q .none s') : wpAny (model X.prog X.w) X.A (call (.builtin "set.add") [.ref D, .str y u]) Q E s := by
  refine setT_add (setTO_get I hD) room fun h' sb new => ?_
  have he : ∃ u, h'.get? D = some u := by
    have ⟨o, _, _, _, ho, _⟩ := new
    exact ⟨o, ho⟩
  exact h _ (I.write (e := D) (t' := s.toks + 1) (by rw [hD]; trivial) (.inl rfl) (fun b u hb hu => (sb.2 b hb).trans hu) he (setTO_new new))
end
/-! ### sorted of it -/
section
variable {P : Program} {w : World} {A : Around} {E : Value → Shared → Prop} {s : Shared} {a : Addr}
theorem sorted_setT {S : Str → Bool} {n : Nat} {Q : Value → Shared → Prop} (R : SetT w s.heap a S n) (hh : A.handled = none) (h64 : n < 64)
    (hQ : ∀ s' p (out : Array Value) (c : Nat) (xs : List Str), (∀ b o, s.heap.get? b = some o → s'.heap.get? b = some o) → s'.gens = s.gens → s'.os = s.os → s.heap.objs.size ≤ p →
      s'.heap.get? p = some (seqObj "list" out c) → StrsAre out.toList xs → sortedS xs = true → xs.Nodup → (∀ k, k ∈ xs ↔ S k = true) → xs.length = n → Q (.ref p) s') :
    wpAny (model P w) A (call (.builtin "sorted") [.ref a]) Q E s := by
  obtain ⟨o, es, ep, t, ho, hex, hd, g, nd, hm, hb, hf, hn, hr, hl⟩ := R
  refine Calls.call_function_entry kind_sorted plain_sorted entry_sorted (args_sorted1 _) ?_
  unfold Builtin.«sorted»
  refine wpAny_bind (m := checkCount "sorted" 1 1 _) (wpAny_pure ?_)
  refine wpAny_bind (collect_set (A := A.in1) hh ⟨o, ho, hex.1, hd⟩ hf hb hr hl fun s1 vs k1 hz g1 o1 pm => ?_)
  have hvl : vs.length = n := by rw [pm.length_eq, List.length_map, Array.length_toList]; exact hn
  have hI : StrsAre vs (vs.map PyProof.Rows.strOf) := strsAre_map vs fun v hv => by
    obtain ⟨e, he, q⟩ := List.mem_map.mp (pm.mem_iff.mp hv)
    obtain ⟨k, tk, h1, _⟩ := g e he
    exact ⟨k, tk, by rw [← q]; exact h1⟩
  have pk : (vs.map PyProof.Rows.strOf).Perm (es.toList.map keyT) := by
    have q := pm.map PyProof.Rows.strOf
    rw [List.map_map] at q
    refine q.trans (List.Perm.of_eq (List.map_congr_left fun e he => ?_))
    obtain ⟨k, tk, h1, _⟩ := g e he
    show PyProof.Rows.strOf e.2 = keyT e
    unfold keyT
    rw [h1]; rfl
  refine wpAny_bind (wpAny_newList ?_ (by rw [hvl, sizeLine_eq]; omega))
  have hoL : (s1.heap.push (seqObj "list" vs.toArray 0)).get? s1.heap.objs.size = some (seqObj "list" vs.toArray 0) := Heap.get?_push_size _ rfl
  refine wpAny_bind (wpAny_holding (wpAny_call_entry slot_list_sort ⟨_, hoL, rfl⟩ entry_list_sort (list_sort_treeK strKind_oneLt hoL hI.keysOf (fun v₁ v₂ rest e => keyKind_strs (by rw [← e]; exact hI)) (by rw [hvl]; exact h64) fun st' hp hs => ⟨_, rfl, ?_⟩) (args_list_sort _)))
  obtain ⟨xs, a1, a2, a3⟩ := sorted_out_str hI hp hs
  obtain ⟨c, hc⟩ := sortedHeap_at (vs := vs) (out := (arrOf st').map (·.2)) hoL
  have pn : xs.Perm (es.toList.map keyT) := a2.trans pk
  refine wpAny_pure ⟨_, rfl, hQ _ s1.heap.objs.size _ c xs (fun b u e => ?_) g1 o1 hz hc a1 a3 (pn.nodup_iff.mpr nd) (fun k => by rw [pn.mem_iff, ← hm k]) ?_⟩
  · have q := k1 b u e
    have hlt := Heap.lt_size q
    show (sortedHeap (s1.heap.push (seqObj "list" vs.toArray 0)) s1.heap.objs.size vs _).get? b = some u
    rw [sortedHeap_old (Nat.ne_of_lt hlt) (by rw [size_push']; exact Nat.lt_succ_of_lt hlt)]
    exact Heap.get?_push_of_some _ q
  · rw [pn.length_eq, List.length_map, Array.length_toList]; exact hn
end
section
variable {X : Cx}
def dSortT (w : World) : List V → Hp → VK → Prop := fun vs H Q => ∃ (a : Addr) (S : Str → Bool) (n : Nat), vs = [V.ref a] ∧ H a = some (SetTO w a S n) ∧ n < 64 ∧
  ∀ (xs : List Str) (p : Addr), sortedS xs = true → xs.Nodup → (∀ k, k ∈ xs ↔ S k = true) → xs.length = n → H p = none → Q (.ref p) (upd H p (.lst (xs.map V.str)))
theorem cl_sortT (hc : X.calm = true) : CallR X (.builtin "sorted") (dSortT X.w) := by
  intro pins s σ H vs us Q I r h
  obtain ⟨a, S, n, rfl, ha, h64, q⟩ := h
  have R := setTO_get I ha
  rw [Vals.ref1 r]
  refine sorted_setT R (I.ok.hd hc) h64 fun s' p out c xs k g o hp hg hi hs hnd hm hl => ?_
  have hlen : (xs.map V.str).length ≤ sizeLine := by rw [List.length_map, hl, sizeLine_eq]; omega
  have hn : H p = none := I.hok.fresh hp
  have J : Inv X pins σ (upd H p (.lst (xs.map V.str))) { s with heap := s'.heap, gens := s'.gens, drawn := s'.drawn, toks := s'.toks } :=
    I.call (ch := []) (Un.laid k hp hn) (I.hok.laid k hp ⟨hlen, out.toList, c, vals_of_strs hi, hg⟩) (by rw [g]; exact I.bare) (fun _ z => nomatch z)
  have e : s' = { s with heap := s'.heap, gens := s'.gens, drawn := s'.drawn, toks := s'.toks } := by
    cases s'
    cases s
    cases o
    rfl
  rw [e]
  exact ⟨.ref p, _, J, rfl, q xs p hs hnd hm hl hn⟩
end
/-! ### a set comprehension, whatever the set is tracked as: Ob D t the object at D in the state t, Add y t t' what the add of y does -/
section
variable {X : Cx} {T : Type} (Ob : Addr → T → HO) (t0 : T) (Add : V → T → T → Prop)
def tScG (wi : TI) (g : TG) (tt : TT) (te : TE) (vs : List Nat) : TE := fun σ H Q => wi σ H fun J H1 => ∀ D, H1 D = none → ∃ W : Nat → Nat → Hp → Prop, (∃ m, W 0 m (upd H1 D (Ob D t0))) ∧ ∀ i m H, W i m H →
  (J.stop i H ∧ Q (.ref D) H) ∨ (J.go i H ∧ ∃ Nx : Hp → Prop, (∀ H', Nx H' → ∃ m', m' < m ∧ W (i + 1) m' H') ∧ ∀ x H', J.yld i H x H' → g x (wipe σ vs) H' fun σ2 H2 => wipe σ2 vs = wipe σ vs ∧ tt σ2 H2 fun b H3 =>
    if b = true then te σ2 H3 fun y H4 => ∃ t t', H4 D = some (Ob D t) ∧ Add y t t' ∧ Nx (upd H4 D (Ob D t')) else Nx H3)
abbrev setZ (w : World) : Obj := { cls := .type "set", dict := none, data := .set #[] 0 (.fresh 0 0 (!w.params.followText "set-order")) }
def AddsOk (X : Cx) : Prop := ∀ (pins : List (Addr × Obj)) (σ : L2.St) (H : Hp) (s : Shared) (E : Value → Shared → Prop) (D : Addr) (y : V) (u : Value) (t t' : T) (Q : Value → Shared → Prop), Inv X pins σ H s → H D = some (Ob D t) → Add y t t' → RelV y u →
  (∀ s', Inv X pins σ (upd H D (Ob D t')) s' → Q .none s') → wpAny (model X.prog X.w) X.A (call (.builtin "set.add") [.ref D, u]) Q E s
variable {Ob t0 Add}
theorem pe_scG {elt tg iter : Expr} {ifs : List Expr} {scope : Scope} {own : List (PySem.Str × Nat)} {pos : Pos} {wi : TI} {g : TG} {tt : TT} {te : TE}
    (hnew : ∀ (H : Hp) (h : Heap), ObjOk X.prog X.w H (h.push (setZ X.w)) h.objs.size (Ob h.objs.size t0))
    (hadd : ∀ (s : Shared) (H : Hp) (ce : Env) (fp : List Addr), AddsOk Ob Add (X.blk s H scope ce fp))
    (hc : X.calm = true) (hN : X.N.Nodup) (hi : PI X tg iter wi) (ok : BlkOk X.N X.env.scope scope own)
    (hg : ∀ (s : Shared) (H : Hp) (C : Addr) (cl : List (PySem.Str × Addr)) (fp : List Addr), PG (X.blk s H scope (compEnvC scope cl C X.env) fp) tg g) (ht : ∀ (s : Shared) (H : Hp) (C : Addr) (cl : List (PySem.Str × Addr)) (fp : List Addr), PTs (X.blk s H scope (compEnvC scope cl C X.env) fp) ifs tt)
    (he : ∀ (s : Shared) (H : Hp) (C : Addr) (cl : List (PySem.Str × Addr)) (fp : List Addr), PE (X.blk s H scope (compEnvC scope cl C X.env) fp) elt te) (hs : ∀ x, foldedSetIterable iter X.env x = pure x := by intro _; rfl) :
    PE X (.SetComp elt [⟨tg, iter, ifs, 0⟩] scope pos) (tScG Ob t0 Add wi g tt te (own.map (·.2))) := by
  refine ⟨fun pins s σ H Q I h => ?_⟩
  rw [eval_SetComp]
  have hfree : ∀ y ∈ scope.names, y.2 = .free → ∃ c, X.env.cells.lookup y.1 = some c := fun y hy e => by
    rcases ok.free y hy e with k | k
    · exact I.ok.has _ (.inl k)
    · exact I.ok.has _ (.inr k)
  refine wpAny_comprehension_free rfl hs (closure_ok hfree) ok.kind (fun y hy e => by rw [ok.uniq y hy, e])
    (thn (hi.run pins s σ H _ I h) fun xv s1 hx => thn hx fun itv s2 h2 => ?_)
  obtain ⟨it, fp, tn, J, H2, e, I2, T', st2, f2, q⟩ := h2
  subst e
  refine newSet_ok (newEnv_comp ?_)
  generalize hD : s2.heap.objs.size = D
  have hDn : H2 D = none := I2.hok.fresh (Nat.le_of_eq hD)
  obtain ⟨W, ⟨m0, w0⟩, turn⟩ := q D hDn
  generalize hs3 : ({ s2 with heap := s2.heap.push (setZ X.w) } : Shared) = s3
  have I3 : Inv X pins σ (upd H2 D (Ob D t0)) s3 := by
    rw [← hs3]
    refine I2.laid (t' := s2.toks) (fun b o e => Heap.get?_push_of_some _ e) (Nat.le_of_eq hD) ?_
    rw [← hD]
    exact hnew _ _
  have h3 : s3.heap = s2.heap.push (setZ X.w) := by rw [← hs3]
  have f3 : ∀ b ∈ fp, FpOk X pins (upd H2 D (Ob D t0)) b ∧ b < s3.heap.objs.size := fun b hb => by
    obtain ⟨o, e, _⟩ := T'.obj _ _ st2 b hb
    have hlt := Heap.lt_size e
    refine ⟨⟨?_, (f2 b hb).2⟩, by rw [h3, Heap.size_push]; exact Nat.lt_succ_of_lt hlt⟩
    rw [upd_ne (by rw [← hD]; exact Nat.ne_of_lt hlt)]
    exact (f2 b hb).1
  have st3 : tn 0 s3.heap := T'.keep _ _ _ st2 fun b _ o e => by rw [h3]; exact Heap.get?_push_of_some _ e
  have I4 := block_start I3 ok hN f3
  generalize hcl : cellsFrom (s3.heap.objs.size + 1) scope.names (cloFrom X.env.cells scope.names []) = cl at I4
  have pg := hg s3 (upd H2 D (Ob D t0)) s3.heap.objs.size cl fp
  have pt := ht s3 (upd H2 D (Ob D t0)) s3.heap.objs.size cl fp
  have pe := he s3 (upd H2 D (Ob D t0)) s3.heap.objs.size cl fp
  show codeAny _ _ (.compStart (.SetComp elt [⟨tg, iter, ifs, 0⟩] scope pos) 0 (.ref it) (.ref D) (compEnvC scope cl s3.heap.objs.size X.env)) (compPost (model X.prog X.w) X.A X.xe none (EP X pins σ Q) (.ref D) s3.heap.objs.size) { s3 with heap := pushCells (s3.heap.push { cls := .type "dict", data := .dict #[] }) scope.names }
  have nfp : ∀ b ∈ fp, (upd H2 D (Ob D t0)) b = none := fun b hb => (f3 b hb).1.1
  generalize hce : compEnvC scope cl s3.heap.objs.size X.env = ce at I4 pg pt pe ⊢
  have cL : ce.locals = s3.heap.objs.size := by subst hce; rfl
  generalize hH3 : upd H2 D (Ob D t0) = H3 at I3 I4 pg pt pe w0 nfp f3
  generalize hs4 : ({ s3 with heap := pushCells (s3.heap.push { cls := .type "dict", data := .dict #[] }) scope.names } : Shared) = s4 at I4 ⊢
  have st4 : tn 0 s4.heap := T'.keep _ _ _ st3 fun b _ o e => by rw [← hs4]; exact pushCells_keeps _ _ _ _ (Heap.get?_push_of_some _ e)
  have ad : AddsOk Ob Add (X.blk s3 H3 scope ce fp) := hadd s3 H3 ce fp
  have stat : ∀ {σ' : L2.St} {H' : Hp} {s' : Shared}, Inv (X.blk s3 H3 scope ce fp) [] σ' H' s' → (∀ b ∈ fp, H' b = none) → ∀ b ∈ fp, FpOk (X.blk s3 H3 scope ce fp) [] H' b := fun {σ' H' s'} I' hn b hb =>
    ⟨hn b hb, (I'.ok.exf b hb).1, I'.ok.exfs b hb, .inl hb, fun x c e => (I'.ok.exf b hb).2 x c e, fun p hp => absurd (show p ∈ ([] : List (Addr × Obj)) ++ [] from hp) (by simp)⟩
  have loop : codeAny (model X.prog X.w) X.A (.compLoop (.SetComp elt [⟨tg, iter, ifs, 0⟩] scope pos) 0 (.ref it) (.ref D) ce) (compPost (model X.prog X.w) X.A X.xe none (EP X pins σ Q) (.ref D) s3.heap.objs.size) s4 := by
    refine compLoopS_any (fun n s' => ∃ i H', Inv (X.blk s3 H3 scope ce fp) [] (wipe σ (own.map (·.2))) H' s' ∧ tn i s'.heap ∧ (∀ b ∈ fp, H' b = none) ∧ W i n H') ?_ m0 ⟨0, H3, I4, st4, nfp, w0⟩
    rintro n s5 ⟨i, H5, I5, st5, n5, w5⟩
    rcases turn i n H5 w5 with ⟨stop, qq⟩ | ⟨go, Nx, hNx, step⟩
    · have td := T'.done (X.blk s3 H3 scope ce fp) rfl rfl rfl hc i [] s5 _ H5 (fun _ _ => False) I5 (stat I5 n5) st5 stop
      refine thnF td fun r s6 ⟨hr, I6⟩ => ?_
      subst hr
      have I7 : Inv X pins σ H5 s6 := I3.call' (ch := fp) I6.os I6.base I6.hok I6.bare fun b hb => ⟨(f3 b hb).1.2.2.2.1, (f3 b hb).1.2.1, (f3 b hb).1.2.2.2.2.1, (f3 b hb).1.2.2.2.2.2⟩
      have nC : H5 s3.heap.objs.size = none := by
        have z : H5 ce.locals = none := I6.free
        rw [cL] at z
        exact z
      obtain ⟨m, hn, _⟩ := I6.loc
      have hn : s6.heap.Ns ce.locals m := hn
      rw [cL] at hn
      refine ⟨m, hn, fun h'' sb => ?_⟩
      obtain ⟨g0, g1, g2, g3, g4, g5⟩ := I3.fpOk (Nat.le_refl _) nC
      exact ⟨.ref D, H5, I7.turned (t' := s6.toks) (fun b o hb e => (sb.2 b hb).trans e) g0 g1 g3 g4 g5, rfl, qq⟩
    · have ti := T'.item (X.blk s3 H3 scope ce fp) rfl rfl rfl hc i [] s5 _ H5 (fun _ _ => False) I5 (stat I5 n5) st5 go
      refine thnF ti fun r s6 ⟨u, hr, h6⟩ => ?_
      subst hr
      refine thnF h6 fun _ s7 ⟨x, H7, I7, r7, y7, st7, n7⟩ => ?_
      have I7' := I7.pinned (stat I7 n7) (T'.obj _ _ st7)
      refine thnF (pg.run _ s7 _ H7 x u _ I7' r7 (step x H7 y7)) fun _ s8 ⟨σ8, H8, I8, hw8, q8⟩ => ?_
      refine thnF (pt.run _ s8 σ8 H8 _ I8 q8) fun b s9 ⟨H9, I9, q9⟩ => ?_
      have fin : ∀ {s' : Shared} {H' : Hp}, Inv (X.blk s3 H3 scope ce fp) ([] ++ pinsAt fp s7.heap) σ8 H' s' → Nx H' → ∃ m, m < n ∧ ∃ i H', Inv (X.blk s3 H3 scope ce fp) [] (wipe σ (own.map (·.2))) H' s' ∧ tn i s'.heap ∧ (∀ b ∈ fp, H' b = none) ∧ W i m H' := fun {s' H'} I' nx => by
        obtain ⟨m', hm, w'⟩ := hNx H' nx
        have pin' : ∀ b ∈ fp, ∀ o, s7.heap.get? b = some o → s'.heap.get? b = some o ∧ H' b = none := fun b hb o e =>
          let z := I'.pin (b, o) (List.mem_append_right _ (List.mem_append_right _ (mem_pinsAt hb e)))
          ⟨z.1, z.2.1⟩
        have hl : (wipe σ (own.map (·.2))).length = σ8.length := by rw [← hw8, wipe_length]
        refine ⟨m', hm, i + 1, H', (I'.unpinned (pins := [])).weak hl (fun j v e => ?_), T'.keep _ _ _ st7 fun b hb o e => (pin' b hb o e).1, fun b hb => ?_, w'⟩
        · rw [← hw8] at e
          exact (wipe_some e).1
        · obtain ⟨o, e, _⟩ := T'.obj _ _ st7 b hb
          exact (pin' b hb o e).2
      cases b with
      | false =>
        simp only [Bool.false_eq_true, if_false] at q9 ⊢
        exact fin I9 q9
      | true =>
        simp only [if_true] at q9 ⊢
        refine thnF (pe.run _ s9 σ8 H9 _ I9 q9) fun z s10 ⟨yv, H10, I10, r10, t, t', hD10, ha, nx⟩ => ?_
        exact ad _ _ _ _ _ _ _ _ _ _ _ I10 hD10 ha r10 fun s11 I11 => fin I11 nx
  exact codeAny_compStart_set loop (T'.self X.A 0 _ _ _ st4 loop)
end
/-! ### the set of texts -/
abbrev TState := (Str → Bool) × Nat
def ObT (w : World) (D : Addr) (t : TState) : HO := SetTO w D t.1 t.2
def AddT (y : V) (t t' : TState) : Prop := ∃ k : Str, y = .str k ∧ t.2 + 1 < scanBound ∧ t' = (fun j => t.1 j || decide (j = k), if t.1 k = true then t.2 else t.2 + 1)
theorem addsT (X : Cx) : AddsOk (ObT X.w) AddT X := by
  intro pins σ H s E D y u t t' Q I hD ha r k
  obtain ⟨x, rfl, room, rfl⟩ := ha
  obtain ⟨tk, rfl⟩ := (show ∃ tk, u = Value.str x tk from r)
  exact addT_ok I hD room k
theorem newT (P : Program) (w : World) (H : Hp) (h : Heap) : ObjOk P w H (h.push (setZ w)) h.objs.size (ObT w h.objs.size (fun _ => false, 0)) := setTO_new (setT_fresh w)
abbrev tScT (w : World) := tScG (ObT w) (fun _ => false, 0) AddT
theorem pe_scT {X : Cx} {elt tg iter : Expr} {ifs : List Expr} {scope : Scope} {own : List (PySem.Str × Nat)} {pos : Pos} {wi : TI} {g : TG} {tt : TT} {te : TE}
    (hc : X.calm = true) (hN : X.N.Nodup) (hi : PI X tg iter wi) (ok : BlkOk X.N X.env.scope scope own)
    (hg : ∀ (s : Shared) (H : Hp) (C : Addr) (cl : List (PySem.Str × Addr)) (fp : List Addr), PG (X.blk s H scope (compEnvC scope cl C X.env) fp) tg g) (ht : ∀ (s : Shared) (H : Hp) (C : Addr) (cl : List (PySem.Str × Addr)) (fp : List Addr), PTs (X.blk s H scope (compEnvC scope cl C X.env) fp) ifs tt)
    (he : ∀ (s : Shared) (H : Hp) (C : Addr) (cl : List (PySem.Str × Addr)) (fp : List Addr), PE (X.blk s H scope (compEnvC scope cl C X.env) fp) elt te) (hs : ∀ x, foldedSetIterable iter X.env x = pure x := by intro _; rfl) :
    PE X (.SetComp elt [⟨tg, iter, ifs, 0⟩] scope pos) (tScT X.w wi g tt te (own.map (·.2))) :=
  pe_scG (newT X.prog X.w) (fun s H ce fp => addsT _) hc hN hi ok hg ht he hs
section
variable {T : Type} {Ob : Addr → T → HO} {t0 : T} {Add : V → T → T → Prop}
/-- by an invariant over the turns -/
theorem scg_it {J : It} {n : Nat} {G : Hp → Prop} {Y : Nat → Hp → V → Hp → Prop} (w : Walk J n G Y) {g : TG} {tt : TT} {te : TE} {vs : List Nat} {σ : L2.St} {H1 : Hp} {D : Addr} {Qd : Hp → Prop} (Pv : Nat → Hp → Prop) (h0 : Pv 0 (upd H1 D (Ob D t0))) (hG : ∀ i H, i ≤ n → Pv i H → G H)
    (hs : ∀ i x H H2, i < n → Pv i H → Y i H x H2 → g x (wipe σ vs) H2 fun σ2 H3 => wipe σ2 vs = wipe σ vs ∧ tt σ2 H3 fun b H4 => if b = true then te σ2 H4 fun y H5 => ∃ t t', H5 D = some (Ob D t) ∧ Add y t t' ∧ Pv (i + 1) (upd H5 D (Ob D t')) else Pv (i + 1) H4)
    (hd : ∀ H, Pv n H → Qd H) : ∃ W : Nat → Nat → Hp → Prop, (∃ m, W 0 m (upd H1 D (Ob D t0))) ∧ ∀ i m H, W i m H →
  (J.stop i H ∧ Qd H) ∨ (J.go i H ∧ ∃ Nx : Hp → Prop, (∀ H', Nx H' → ∃ m', m' < m ∧ W (i + 1) m' H') ∧ ∀ x H', J.yld i H x H' → g x (wipe σ vs) H' fun σ2 H2 => wipe σ2 vs = wipe σ vs ∧ tt σ2 H2 fun b H3 =>
    if b = true then te σ2 H3 fun y H4 => ∃ t t', H4 D = some (Ob D t) ∧ Add y t t' ∧ Nx (upd H4 D (Ob D t')) else Nx H3) := by
  refine ⟨fun i m H => m = n - i ∧ i ≤ n ∧ Pv i H, ⟨n, by simp, Nat.zero_le _, h0⟩, ?_⟩
  rintro i m H ⟨rfl, hi, p⟩
  by_cases hlt : i < n
  · exact .inr ⟨w.goes i H hlt (hG i H hi p), Pv (i + 1), fun H' p' => ⟨n - (i + 1), by omega, rfl, hlt, p'⟩, fun x H' y => hs i x H H' hlt p (w.yields i H x H' hlt (hG i H hi p) y)⟩
  · obtain rfl : i = n := by omega
    exact .inl ⟨w.stops H (hG _ H hi p), hd H p⟩
end
theorem q_scT {X : Cx} (w : World) {elt tg iter : Expr} {ifs : List Expr} {scope : Scope} {own : List (PySem.Str × Nat)} {pos : Pos} {wi : TI} {g : TG} {tt : TT} {te : TE}
    (hc : X.calm = true) (hN : X.N.Nodup) (hi : PI X tg iter wi) (ok : BlkOk X.N X.env.scope scope own)
    (hg : ∀ (s : Shared) (H : Hp) (C : Addr) (cl : List (PySem.Str × Addr)) (fp : List Addr), PG (X.blk s H scope (compEnvC scope cl C X.env) fp) tg g) (ht : ∀ (s : Shared) (H : Hp) (C : Addr) (cl : List (PySem.Str × Addr)) (fp : List Addr), PTs (X.blk s H scope (compEnvC scope cl C X.env) fp) ifs tt)
    (he : ∀ (s : Shared) (H : Hp) (C : Addr) (cl : List (PySem.Str × Addr)) (fp : List Addr), PE (X.blk s H scope (compEnvC scope cl C X.env) fp) elt te) (hs : ∀ x, foldedSetIterable iter X.env x = pure x := by intro _; rfl) (hw : X.w = w := by rfl) :
    PE X (.SetComp elt [⟨tg, iter, ifs, 0⟩] scope pos) (tScT w wi g tt te (own.map (·.2))) := hw ▸ pe_scT hc hN hi ok hg ht he hs
theorem cl_sortTW {X : Cx} (w : World) (hc : X.calm = true) (hw : X.w = w := by rfl) : CallR X (.builtin "sorted") (dSortT w) := hw ▸ cl_sortT hc
/-- the loop of a set comprehension of texts, as one thing -/
def LoopS (w : World) (J : It) (g : TG) (tt : TT) (te : TE) (vs : List Nat) (σ : L2.St) (H1 : Hp) (D : Addr) (Qd : Hp → Prop) : Prop := ∃ W : Nat → Nat → Hp → Prop, (∃ m, W 0 m (upd H1 D (ObT w D (fun _ => false, 0)))) ∧ ∀ i m H, W i m H →
  (J.stop i H ∧ Qd H) ∨ (J.go i H ∧ ∃ Nx : Hp → Prop, (∀ H', Nx H' → ∃ m', m' < m ∧ W (i + 1) m' H') ∧ ∀ x H', J.yld i H x H' → g x (wipe σ vs) H' fun σ2 H2 => wipe σ2 vs = wipe σ vs ∧ tt σ2 H2 fun b H3 =>
    if b = true then te σ2 H3 fun y H4 => ∃ t t', H4 D = some (ObT w D t) ∧ AddT y t t' ∧ Nx (upd H4 D (ObT w D t')) else Nx H3)
theorem g_scT {w : World} {wi : TI} {g : TG} {tt : TT} {te : TE} {vs : List Nat} {σ : L2.St} {H : Hp} {Q : VK}
    (h : wi σ H fun J H1 => ∀ D, H1 D = none → LoopS w J g tt te vs σ H1 D fun H' => Q (.ref D) H') : tScT w wi g tt te vs σ H Q := h
theorem lp_scT {w : World} {J : It} {n : Nat} {G : Hp → Prop} {Y : Nat → Hp → V → Hp → Prop} (wk : Walk J n G Y) {g : TG} {tt : TT} {te : TE} {vs : List Nat} {σ σw : L2.St} (hσ : wipe σ vs = σw) {H1 : Hp} {D : Addr} {Qd : Hp → Prop} (Pv : Nat → Hp → Prop) (h0 : Pv 0 (upd H1 D (ObT w D (fun _ => false, 0)))) (hG : ∀ i H, i ≤ n → Pv i H → G H)
    (hs : ∀ i x H H2, i < n → Pv i H → Y i H x H2 → g x σw H2 fun σ2 H3 => wipe σ2 vs = σw ∧ tt σ2 H3 fun b H4 => if b = true then te σ2 H4 fun y H5 => ∃ t t', H5 D = some (ObT w D t) ∧ AddT y t t' ∧ Pv (i + 1) (upd H5 D (ObT w D t')) else Pv (i + 1) H4)
    (hd : ∀ H, Pv n H → Qd H) : LoopS w J g tt te vs σ H1 D Qd := by
  subst hσ
  exact scg_it wk Pv h0 hG hs hd
end NL
namespace NL
open PySem L2
local macro_rules | `(tactic| walk_at "wipe") => `(tactic| (simp only [wipe_cons, wipe_nil, List.map_cons, List.map_nil, List.set_cons_succ, List.set_cons_zero]; rfl))
local macro_rules | `(tactic| walk_at "mem") => `(tactic| first | assumption | exact List.mem_cons_self .. | (apply List.mem_cons_of_mem; walk_at "mem"))
local macro_rules | `(tactic| walk_at "sub") => `(tactic| first | exact no0 | exact subr | (refine sub1 ?_; walk_at "mem") | (refine subc ?_; walk_at "sub"))
local macro_rules | `(tactic| walk_at "df") => `(tactic| first
  | assumption | exact Df.int _ | exact Df.str _ | exact Df.non | exact Df.bl _
  | exact Bld.done (by assumption)
  | exact Dk.df (by assumption)
  | ((refine' Df.ed (by assumption) ?s ?h); (case s => walk_at "sub"); (case h => walk_at "df"))
  | ((refine' Df.via (by assumption) (by assumption) ?e ?h); (case e => walk_at "ed"); (case h => walk_at "df"))
  | ((refine' Df.more (by assumption) ?h); (case h => walk_at "df"))
  | ((refine' Df.weak ?s ?h); (case h => assumption); (case s => walk_at "sub")))
local macro_rules | `(tactic| walk_at "dfs") => `(tactic| first
  | assumption | exact DfAll.nil | ((refine' DfAll.cons ?a ?b); (case a => walk_at "df"); (case b => walk_at "dfs"))
  | exact DfAll.strs _ | exact DfAll.ints _)
local macro_rules | `(tactic| walk_at "dk") => `(tactic| first
  | assumption
  | ((refine' Dk.ed ?h (by assumption) ?s); (case s => walk_at "sub"); (case h => walk_at "dk"))
  | ((refine' Dk.via (by assumption) (by assumption) ?e ?h); (case e => walk_at "ed"); (case h => walk_at "dk"))
  | ((refine' Dk.more (by assumption) ?h); (case h => walk_at "dk")))
local macro_rules | `(tactic| walk_at "alive") => `(tactic| first | assumption | exact Bag.alive (by assumption) | exact Bld.alive (by assumption) | exact Df.alive (by assumption) | exact Dk.alive (by assumption))
local macro_rules | `(tactic| walk_at "wl") => `(tactic| first
  | assumption | exact Wl.nil
  | ((refine Wl.cons' ?a ?r); (case a => walk_at "alive"); (case r => walk_at "wl"))
  | ((refine Wl.ed ?r (by assumption)); (case r => walk_at "wl"))
  | exact Wl.tail (by assumption))
local macro_rules | `(tactic| walk_at "al") => `(tactic| first | exact Al.refl | ((refine' Al.of (by assumption) ?h); (case h => walk_at "al")))
local macro_rules | `(tactic| walk_at "fr") => `(tactic| first | assumption | ((refine' Al.free ?e (by assumption)); (case e => walk_at "al")))
local macro_rules | `(tactic| walk_at "edv") => `(tactic| first | exact no0 | ((refine edvl ?s); (case s => walk_at "sub")) | ((refine edv1 (Or.inr ?f)); (case f => walk_at "fr")))
local macro_rules | `(tactic| walk_at "ed") => `(tactic| first
  | assumption | exact Ed.refl
  | ((refine Ed.tr ?x (by assumption) ?v); (case x => walk_at "ed"); (case v => walk_at "edv")))
local macro_rules | `(tactic| walk_at "nb") => `(tactic| first | exact List.not_mem_nil | assumption | exact nb_bld (by assumption) (by walk_at "mem"))
local macro_rules | `(tactic| walk_at "bag") => `(tactic| first
  | assumption
  | ((refine' Bag.ed ?h (by assumption) ?n); (case n => walk_at "nb"); (case h => walk_at "bag"))
  | ((refine' Bag.via (by assumption) (by assumption) ?e ?h); (case e => walk_at "ed"); (case h => walk_at "bag")))
local macro_rules | `(tactic| walk_at "bld") => `(tactic| first
  | assumption
  | ((refine' Bld.ed ?h (by assumption) ?s); (case s => walk_at "sub"); (case h => walk_at "bld"))
  | ((refine' Bld.via (by assumption) (by assumption) ?e ?h); (case e => walk_at "ed"); (case h => walk_at "bld")))
local macro_rules | `(tactic| walk_at "num") => `(tactic| first | omega | assumption)
local macro_rules | `(tactic| walk_at "ne") => `(tactic| first
  | assumption
  | (apply Ne.symm; assumption)
  | (refine' ne_of_none ?n1 (by assumption); (case n1 => walk_at "hp"))
  | (refine' Ne.symm (ne_of_none ?n1 (by assumption)); (case n1 => walk_at "hp")))
local macro_rules | `(tactic| walk_at "hp") => `(tactic| first
  | assumption
  | with_reducible exact upd_same
  | ((with_reducible refine Eq.trans (upd_ne ?n1) ?n2); (case n1 => walk_at "ne"); (case n2 => walk_at "hp"))
  | ((with_reducible refine hp_same (by assumption) ?n2); (case n2 => walk_at "hp"))
  | ((with_reducible refine hp_sx (by assumption) ?n1 ?n2); (case n1 => simp only [List.mem_cons, List.not_mem_nil, or_false]; walk_at "ne"); (case n2 => walk_at "hp")))
local macro_rules | `(tactic| walk_at "sq") => `(tactic| first
  | assumption
  | ((refine' Or.inl ?n1); (case n1 => walk_at "sql"))
  | ((refine' Or.inr ?n1); (case n1 => walk_at "sqt")))
local macro_rules | `(tactic| walk_at "sql") => `(tactic| first
  | assumption
  | ((refine' SqL.of ?n1); (case n1 => walk_at "hp"))
  | (refine sqL_same (by assumption) ?n1; (case n1 => walk_at "same")))
local macro_rules | `(tactic| walk_at "same") => `(tactic| first
  | assumption
  | exact Same.refl _
  | (refine L2.Same.new ?n1 (by assumption); (case n1 => walk_at "same"))
  | (refine L2.Same.mut ?n1 ?n2; (case n2 => first | assumption | exact Same.free (by assumption) (by assumption)); (case n1 => walk_at "same")))
local macro_rules | `(tactic| walk_at "sqt") => `(tactic| first
  | assumption
  | ((refine' SqT.of ?n1); (case n1 => walk_at "hp")))
local macro_rules | `(tactic| walk_at "size") => `(tactic| (rw [sizeLine_eq] <;> first | omega | (simp; omega)))
local macro_rules | `(tactic| walk_at "flat") => `(tactic| first | assumption | exact flat_strs _ | exact flat_ints _ | rfl | simp [flatV])
local macro_rules | `(tactic| walk_at "go1") => `(tactic| first
  | with_reducible refine g_seq ?_
  | with_reducible refine g_asg ?_
  | ((with_reducible refine' g_nameE ?z ?_); (case z => (simp only [List.set_cons_succ, List.set_cons_zero]; rfl)))
  | with_reducible refine g_name ?_
  | with_reducible refine g_op ?_
  | ((with_reducible refine' g_var ?z ?_); (case z => exact rfl))
  | with_reducible refine g_c ?_
  | with_reducible refine g_cb ?_
  | with_reducible refine g_cons ?_
  | with_reducible refine g_nil ?_
  | with_reducible refine g_ifS ?_
  | with_reducible refine g_test ?_
  | with_reducible refine g_tb ?_
  | with_reducible refine g_bl ?_
  | with_reducible refine g_not ?_
  | with_reducible refine g_and ?_
  | with_reducible refine g_or ?_
  | with_reducible refine g_ret ?_
  | with_reducible refine g_retN ?_
  | with_reducible refine g_drop ?_
  | with_reducible refine g_ifE ?_
  | with_reducible refine g_callS ?_
  | with_reducible refine g_sub ?_
  | with_reducible refine g_un ?_
  | with_reducible refine g_next ?_
  | with_reducible refine g_cmp_i ?_
  | with_reducible refine g_add_i ?_
  | with_reducible refine g_sub_i ?_
  | with_reducible refine g_int_i ?_
  | with_reducible refine g_eq_i ?_
  | with_reducible refine g_eq_s ?_
  | with_reducible refine g_eq_b ?_
  | with_reducible refine g_ne_i ?_
  | with_reducible refine g_ne_s ?_
  | with_reducible refine g_ne_b ?_
  | with_reducible refine g_str_s ?_
  | with_reducible refine g_abs ?_
  | with_reducible refine g_max ?_
  | with_reducible refine g_min ?_
  | with_reducible refine g_isN ?_
  | with_reducible refine g_isNotN ?_
  | ((with_reducible refine g_mod_i ?z ?_); (case z => walk_at "num"))
  | ((with_reducible refine g_div_i ?z ?_); (case z => exact ⟨by walk_at "num", by first | assumption | decide⟩))
  | ((with_reducible refine g_mul_i ?z ?_); (case z => first | exact Or.inl (Or.inr ⟨by omega, by omega⟩) | exact Or.inl (Or.inl ⟨by omega, by omega⟩) | assumption))
  | ((with_reducible refine' g_ix_l ?z1 ?z2 ?_); (case z1 => walk_at "sq"); (case z2 => first | rfl | assumption))
  | ((with_reducible refine' g_setL ?z1 ?z2 ?_); (case z1 => walk_at "hp"); (case z2 => first | rfl | assumption))
  | ((with_reducible refine' g_len_l ?z1 ?_); (case z1 => walk_at "sq"))
  | ((with_reducible refine' g_augE ?z ?_); (case z => exact rfl))
  | with_reducible refine g_for ?_
  | with_reducible refine g_lc ?_
  | with_reducible refine g_iL ?_
  | with_reducible refine g_iT ?_
  | with_reducible refine g_iS ?_
  | with_reducible refine g_iS1 ?_
  | with_reducible refine g_iE ?_
  | with_reducible refine g_iR ?_
  | ((with_reducible refine' g_iL1 ?z1 ?_); (case z1 => walk_at "sql"))
  | ((with_reducible refine' g_iT1 ?z1 ?_); (case z1 => walk_at "sqt"))
  | ((with_reducible refine' g_iE1 ?z1 ?_); (case z1 => walk_at "sql"))
  | ((with_reducible refine g_iR1 ?z1 ?z2 ?_); (case z1 => walk_at "num"); (case z2 => walk_at "num"))
  | with_reducible refine g_yes ?_
  | with_reducible refine g_sl ?_
  | with_reducible refine g_noP ?_
  | with_reducible refine g_part ?_
  | ((with_reducible refine g_pow_i ?z ?_); (case z => exact ⟨by decide, by decide, by decide⟩))
  | ((with_reducible refine g_len_s ?z ?_); (case z => first | assumption | walk_at "size"))
  | with_reducible refine iteT ?_
  | with_reducible refine iteF ?_
  | with_reducible refine iteNT ?_
  | with_reducible refine iteNF ?_
  | with_reducible refine g_int1 ?_
  | ((with_reducible refine' g_slL ?z1 ?_); (case z1 => walk_at "sql"))
  | ((with_reducible refine' g_listL ?z1 ?_); (case z1 => walk_at "sq"))
  | ((with_reducible refine' g_inLs ?z1 ?_); (case z1 => walk_at "sq"))
  | ((with_reducible refine' g_ninLs ?z1 ?_); (case z1 => walk_at "sq"))
  | with_reducible refine g_ip ?_
  | with_reducible refine g_rU ?_
  | ((with_reducible refine' g_inL ?z1 ?z2 ?z3 ?_); (case z1 => walk_at "sq"); (case z2 => rfl); (case z3 => walk_at "flat"))
  | ((with_reducible refine' g_ninL ?z1 ?z2 ?z3 ?_); (case z1 => walk_at "sq"); (case z2 => rfl); (case z3 => walk_at "flat"))
  | with_reducible refine g_inS ?_
  | with_reducible refine g_ninS ?_
  | with_reducible refine g_bm ?_
  | with_reducible refine g_bm0 ?_
  | ((with_reducible refine' g_tyL ?z1 ?_); (case z1 => walk_at "sql"))
  | with_reducible refine g_tyS ?_
  | ((with_reducible refine' g_tyB ?z1 ?_); (case z1 => assumption))
  | ((with_reducible refine' g_tyD ?z1 ?_); (case z1 => assumption))
  | ((with_reducible refine' g_app ?z1 ?z2 ?_); (case z1 => walk_at "hp"); (case z2 => walk_at "size"))
  | ((with_reducible refine' g_join ?z1 ?z2 ?_); (case z1 => walk_at "sq"); (case z2 => walk_at "size"))
  | ((with_reducible refine g_words ?z ?_); (case z => walk_at "size"))
  | ((with_reducible refine g_split ?z1 ?z ?_); (case z1 => rfl); (case z => walk_at "size"))
  | with_reducible refine g_lst ?_
  | with_reducible refine g_tup ?_
  | with_reducible refine tru_b ?_
  | with_reducible refine tru_n ?_
  | with_reducible refine tru_i ?_
  | with_reducible refine g_andT ?_
  | with_reducible refine g_orT ?_
  | with_reducible refine g_notT ?_
  | with_reducible refine g_raise ?_
  | with_reducible refine g_raised ?_
  | with_reducible refine g_make ?_
  | with_reducible refine g_meth ?_
  | with_reducible refine g_fld ?_
  | with_reducible refine g_sfld ?_
  | ((with_reducible refine' g_gf ?z1 ?z2 ?z3 ?z4 ?_); (case z1 => walk_at "hp"); (case z2 => assumption); (case z3 => assumption); (case z4 => rfl))
  | ((with_reducible refine' g_sf ?z1 ?z2 ?z3 ?z4 ?_); (case z1 => walk_at "hp"); (case z2 => assumption); (case z3 => assumption); (case z4 => exact Nat.lt_of_lt_of_le (Nat.lt_succ_self _) (Nat.le_of_ble_eq_true rfl)))
  | ((with_reducible refine' g_gtup ?z1 ?z2 ?_); (case z1 => walk_at "sqt"); (case z2 => rfl))
  | with_reducible refine g_gcons ?_
  | with_reducible refine g_gnil ?_
  | with_reducible refine g_callO ?_
  | ((with_reducible refine' g_co ?z1 ?_); (case z1 => walk_at "hp"))
  | ((with_reducible refine' g_ci ?z1 ?_); (case z1 => walk_at "hp"))
  | with_reducible refine g_dget ?_
  | ((with_reducible refine' g_dgs ?z1 ?z2 ?_); (case z1 => walk_at "hp"); (case z2 => first | assumption | rfl))
  | with_reducible refine g_dput ?_
  | ((with_reducible refine' g_dps ?z1 ?z2 ?_); (case z1 => walk_at "hp"); (case z2 => walk_at "size"))
  | with_reducible refine g_match ?_
  | with_reducible refine g_matched ?_
  | with_reducible refine g_mcs ?_
  | with_reducible refine g_mcg ?_
  | with_reducible refine g_many ?_
  | with_reducible refine g_mnil ?_
  | with_reducible refine g_afld ?_
  | with_reducible refine g_rAdd ?_
  | with_reducible refine g_rSub ?_
  | ((with_reducible refine' g_gfa ?z1 ?z2 ?z3 ?z4 ?_); (case z1 => walk_at "hp"); (case z2 => assumption); (case z3 => assumption); (case z4 => rfl))
  | ((with_reducible refine' g_af ?z1 ?z2 ?_); (case z1 => walk_at "hp"); (case z2 => exact Nat.lt_of_lt_of_le (Nat.lt_succ_self _) (Nat.le_of_ble_eq_true rfl)))
  | ((with_reducible refine' g_mt ?z1 ?z2 ?_); (case z1 => walk_at "hp"); (case z2 => rfl))
  | with_reducible refine g_ite_refl ?_
  | with_reducible refine g_iZ ?_
  | with_reducible refine g_din ?_
  | with_reducible refine g_par ?_
  | with_reducible refine g_par2 ?_
  | ((with_reducible refine' g_iTd ?z1 ?_); (case z1 => assumption))
  | with_reducible refine g_dget2 ?_
  | ((with_reducible refine' g_isd ?z1 ?_); (case z1 => assumption))
  | with_reducible refine g_dnin ?_
  | with_reducible refine g_disp ?_
  | with_reducible refine g_pr ?_
  | with_reducible refine g_pr0 ?_
  | ((with_reducible refine' g_iLd ?z1 ?_); (case z1 => assumption))
  | ((with_reducible refine' g_iEd ?z1 ?_); (case z1 => assumption))
  | ((with_reducible refine' g_iZd ?z1 ?z2 ?_); (case z1 => assumption); (case z2 => assumption))
  | ((with_reducible refine' g_lend ?z1 ?_); (case z1 => assumption))
  | ((with_reducible refine' g_inds ?z1 ?_); (case z1 => assumption))
  | ((with_reducible refine' g_ninds ?z1 ?_); (case z1 => assumption))
  | ((with_reducible refine' g_dgd ?z1 ?z2 ?_); (case z1 => assumption); (case z2 => first | assumption | rfl))
  | with_reducible refine g_par3 ?_
  | with_reducible refine g_par33 ?_
  | with_reducible refine g_cm ?_
  | with_reducible refine g_star ?_
  | ((with_reducible refine' g_makeL ?z1 ?_); (case z1 => exact rfl))
  | with_reducible refine g_brk ?_
  | with_reducible refine g_cont ?_)
local macro_rules | `(tactic| walk_at "go") => `(tactic| repeat walk_at "go1")
-- EV
local macro_rules | `(tactic| walk_at "fin") => `(tactic| first | exact NQ.fin0 | exact NQ.fin_o (by walk_at "fin") rfl | exact NQ.fin_f (by walk_at "fin") rfl)
local macro_rules | `(tactic| walk_at "evo") => `(tactic| first
  | ((with_reducible refine' NQ.wo_ix_l ?z1 ?_); (case z1 => first | exact NQ.atI0 | exact NQ.atI1 | exact NQ.atI2 | exact NQ.atI3 | exact NQ.atI4 | assumption))
  | ((with_reducible refine' NQ.wo_ix_t ?z1 ?_); (case z1 => first | exact NQ.atI0 | exact NQ.atI1 | exact NQ.atI2 | exact NQ.atI3 | exact NQ.atI4 | assumption))
  | ((with_reducible refine' NQ.wo_fld ?z1 ?_); (case z1 => exact rfl))
  | ((with_reducible refine' NQ.wo_eq ?z1 ?_); (case z1 => first | assumption | exact NQ.eqB_ii | exact NQ.eqB_ss | exact NQ.eqB_bb | exact NQ.eqB_pl 9 (by first | rfl | assumption) (by first | rfl | assumption)))
  | ((with_reducible refine' NQ.wo_ne ?z1 ?_); (case z1 => first | assumption | exact NQ.eqB_ii | exact NQ.eqB_ss | exact NQ.eqB_bb | exact NQ.eqB_pl 9 (by first | rfl | assumption) (by first | rfl | assumption)))
  | with_reducible refine NQ.wo_addi ?_
  | with_reducible refine NQ.wo_len_l ?_
  | ((with_reducible refine' NQ.wo_ix_dt ?z1 ?z2 ?_); (case z1 => first | exact rfl | assumption); (case z2 => assumption))
  | with_reducible refine NQ.wo_addAi ?_
  | with_reducible refine NQ.wo_addI ?_
  | with_reducible refine NQ.wo_subI ?_
  | with_reducible refine NQ.wo_subi ?_
  | with_reducible refine NQ.wo_cmp ?_
  | with_reducible refine NQ.wo_neg ?_
  | with_reducible refine NQ.wo_isN ?_
  | with_reducible refine NQ.wo_notN ?_
  | with_reducible refine NQ.wo_len_t ?_
  | with_reducible refine NQ.wo_len_c ?_
  | with_reducible refine NQ.wo_int_i ?_
  | with_reducible refine NQ.wo_int_b ?_
  | with_reducible refine NQ.wo_str_s ?_
  | with_reducible refine NQ.wo_abs ?_
  | with_reducible refine NQ.wo_max ?_
  | with_reducible refine NQ.wo_min ?_
  | with_reducible refine NQ.wo_list_l ?_
  | with_reducible refine NQ.wo_list_t ?_
  | with_reducible refine NQ.wo_list_c ?_
  | with_reducible refine NQ.wo_tuple ?_
  | with_reducible refine NQ.wo_slL1 ?_
  | with_reducible refine NQ.wo_slL2 ?_
  | with_reducible refine NQ.wo_slL3 ?_
  | ((with_reducible refine' NQ.wo_adds ?z1 ?_); (case z1 => first | assumption | omega | (simp only [List.length_cons, List.length_nil, List.length_append, List.length_map, NQ.rg_len, List.length_range, Str.length_append] <;> omega) | decide +kernel))
  | ((with_reducible refine' NQ.wo_addAs ?z1 ?_); (case z1 => first | assumption | omega | (simp only [List.length_cons, List.length_nil, List.length_append, List.length_map, NQ.rg_len, List.length_range, Str.length_append] <;> omega) | decide +kernel))
  | ((with_reducible refine' NQ.wo_addL ?z1 ?_); (case z1 => first | assumption | omega | (simp only [List.length_cons, List.length_nil, List.length_append, List.length_map, NQ.rg_len, List.length_range, Str.length_append] <;> omega) | decide +kernel))
  | ((with_reducible refine' NQ.wo_addAl ?z1 ?_); (case z1 => first | assumption | omega | (simp only [List.length_cons, List.length_nil, List.length_append, List.length_map, NQ.rg_len, List.length_range, Str.length_append] <;> omega) | decide +kernel))
  | ((with_reducible refine' NQ.wo_addU ?z1 ?_); (case z1 => first | assumption | omega | (simp only [List.length_cons, List.length_nil, List.length_append, List.length_map, NQ.rg_len, List.length_range, Str.length_append] <;> omega) | decide +kernel))
  | ((with_reducible refine' NQ.wo_len_s ?z1 ?_); (case z1 => first | assumption | omega | (simp only [List.length_cons, List.length_nil, List.length_append, List.length_map, NQ.rg_len, List.length_range, Str.length_append] <;> omega) | decide +kernel))
  | ((with_reducible refine' NQ.wo_list_s ?z1 ?_); (case z1 => first | assumption | omega | (simp only [List.length_cons, List.length_nil, List.length_append, List.length_map, NQ.rg_len, List.length_range, Str.length_append] <;> omega) | decide +kernel))
  | ((with_reducible refine' NQ.wo_lst ?z1 ?_); (case z1 => first | assumption | omega | (simp only [List.length_cons, List.length_nil, List.length_append, List.length_map, NQ.rg_len, List.length_range, Str.length_append] <;> omega) | decide +kernel))
  | ((with_reducible refine' NQ.wo_tup ?z1 ?_); (case z1 => first | assumption | omega | (simp only [List.length_cons, List.length_nil, List.length_append, List.length_map, NQ.rg_len, List.length_range, Str.length_append] <;> omega) | decide +kernel))
  | ((with_reducible refine' NQ.wo_slS1 ?z1 ?_); (case z1 => first | assumption | omega | (simp only [List.length_cons, List.length_nil, List.length_append, List.length_map, NQ.rg_len, List.length_range, Str.length_append] <;> omega) | decide +kernel))
  | ((with_reducible refine' NQ.wo_slS2 ?z1 ?_); (case z1 => first | assumption | omega | (simp only [List.length_cons, List.length_nil, List.length_append, List.length_map, NQ.rg_len, List.length_range, Str.length_append] <;> omega) | decide +kernel))
  | ((with_reducible refine' NQ.wo_slS3 ?z1 ?_); (case z1 => first | assumption | omega | (simp only [List.length_cons, List.length_nil, List.length_append, List.length_map, NQ.rg_len, List.length_range, Str.length_append] <;> omega) | decide +kernel))
  | ((with_reducible refine' NQ.wo_words ?z1 ?_); (case z1 => first | assumption | omega | (simp only [List.length_cons, List.length_nil, List.length_append, List.length_map, NQ.rg_len, List.length_range, Str.length_append] <;> omega) | decide +kernel))
  | ((with_reducible refine' NQ.wo_strip ?z1 ?_); (case z1 => first | assumption | omega | (simp only [List.length_cons, List.length_nil, List.length_append, List.length_map, NQ.rg_len, List.length_range, Str.length_append] <;> omega) | decide +kernel))
  | ((with_reducible refine' NQ.wo_muliR ?z1 ?z2 ?_); (case z1 => first | omega | assumption | decide); (case z2 => first | omega | assumption | decide))
  | ((with_reducible refine' NQ.wo_muliL ?z1 ?z2 ?_); (case z1 => first | omega | assumption | decide); (case z2 => first | omega | assumption | decide))
  | ((with_reducible refine' NQ.wo_mulAR ?z1 ?z2 ?_); (case z1 => first | omega | assumption | decide); (case z2 => first | omega | assumption | decide))
  | ((with_reducible refine' NQ.wo_mulAL ?z1 ?z2 ?_); (case z1 => first | omega | assumption | decide); (case z2 => first | omega | assumption | decide))
  | ((with_reducible refine' NQ.wo_muls ?z1 ?_); (case z1 => (refine ⟨?_, ?_, ?_⟩ <;> first | omega | decide | (exact Nat.le_of_ble_eq_true rfl) | (simp only [List.length_cons, List.length_nil, List.length_append, List.length_map, NQ.rg_len, List.length_range, Str.length_append] <;> omega) | assumption)))
  | ((with_reducible refine' NQ.wo_mulL ?z1 ?_); (case z1 => (refine ⟨?_, ?_, ?_⟩ <;> first | omega | decide | (exact Nat.le_of_ble_eq_true rfl) | (simp only [List.length_cons, List.length_nil, List.length_append, List.length_map, NQ.rg_len, List.length_range, Str.length_append] <;> omega) | assumption)))
  | ((with_reducible refine' NQ.wo_mulAl ?z1 ?_); (case z1 => (refine ⟨?_, ?_, ?_⟩ <;> first | omega | decide | (exact Nat.le_of_ble_eq_true rfl) | (simp only [List.length_cons, List.length_nil, List.length_append, List.length_map, NQ.rg_len, List.length_range, Str.length_append] <;> omega) | assumption)))
  | ((with_reducible refine' NQ.wo_modi ?z1 ?_); (case z1 => first | omega | assumption | decide))
  | ((with_reducible refine' NQ.wo_divi ?z1 ?z2 ?_); (case z1 => first | omega | assumption | decide); (case z2 => first | omega | assumption | decide))
  | ((with_reducible refine' NQ.wo_powi ?z1 ?z2 ?z3 ?z4 ?_); (case z1 => first | omega | assumption | decide); (case z2 => first | omega | assumption | decide); (case z3 => first | omega | assumption | decide); (case z4 => first | omega | assumption | decide))
  | ((with_reducible refine' NQ.wo_in ?z1 ?_); (case z1 => first | assumption | exact NQ.memB_ch (by first | rfl | assumption) | exact NQ.memB_c (by first | rfl | assumption) | exact NQ.memB_l (by first | rfl | assumption) (by first | rfl | assumption) | exact NQ.memB_t (by first | rfl | assumption) (by first | rfl | assumption)))
  | ((with_reducible refine' NQ.wo_nin ?z1 ?_); (case z1 => first | assumption | exact NQ.memB_ch (by first | rfl | assumption) | exact NQ.memB_c (by first | rfl | assumption) | exact NQ.memB_l (by first | rfl | assumption) (by first | rfl | assumption) | exact NQ.memB_t (by first | rfl | assumption) (by first | rfl | assumption)))
  | ((with_reducible refine' NQ.wo_disp ?z1 ?z2 ?z3 ?_); (case z1 => decide +kernel); (case z2 => exact rfl); (case z3 => decide))
  | ((with_reducible refine' NQ.wo_split ?z1 ?z2 ?_); (case z1 => first | exact rfl | assumption | decide +kernel); (case z2 => first | assumption | omega | (simp only [List.length_cons, List.length_nil, List.length_append, List.length_map, NQ.rg_len, List.length_range, Str.length_append] <;> omega) | decide +kernel))
  | ((with_reducible refine' NQ.wo_join ?z1 ?z2 ?_); (case z1 => first | assumption | exact rfl); (case z2 => first | assumption))
  | ((with_reducible refine' NQ.wo_ixR_l ?z1 ?z2 ?_); (case z1 => first | exact NQ.atI0 | exact NQ.atI1 | exact NQ.atI2 | exact NQ.atI3 | exact NQ.atI4 | assumption); (case z2 => first | exact rfl | assumption))
  | ((with_reducible refine' NQ.wo_ixR_t ?z1 ?z2 ?_); (case z1 => first | exact NQ.atI0 | exact NQ.atI1 | exact NQ.atI2 | exact NQ.atI3 | exact NQ.atI4 | assumption); (case z2 => first | exact rfl | assumption))
  | ((with_reducible refine' NQ.wo_ix_s ?z1 ?z2 ?_); (case z1 => assumption); (case z2 => first | assumption | omega | (simp only [List.length_cons, List.length_nil, List.length_append, List.length_map, NQ.rg_len, List.length_range, Str.length_append] <;> omega) | decide +kernel))
  | ((with_reducible refine' NQ.wo_isi ?z1 ?z2 ?_); (case z1 => first | assumption | exact rfl); (case z2 => first | assumption | exact rfl))
  | ((with_reducible refine' NQ.wo_ix_d ?z1 ?z2 ?_); (case z1 => exact rfl); (case z2 => assumption)))
local macro_rules | `(tactic| walk_at "evq") => `(tactic| first
  | with_reducible refine NQ.wq_ePq ?_
  | with_reducible refine NQ.wq_notV ?_
  | with_reducible refine NQ.wq_isX ?_
  | ((with_reducible refine' NQ.wq_eP ?z1 ?z2 ?_); (case z1 => exact rfl); (case z2 => exact rfl))
  | ((with_reducible refine' NQ.wq_eq ?z1 ?_); (case z1 => assumption))
  | with_reducible refine NQ.wq_opq ?_
  | with_reducible refine NQ.wq_eC ?_
  | with_reducible refine NQ.wq_if ?_
  | with_reducible refine NQ.wq_andV ?_
  | with_reducible refine NQ.wq_orV ?_
  | with_reducible refine NQ.wq_ch ?_
  | ((with_reducible refine' NQ.wq_eV ?z1 ?_); (case z1 => exact rfl))
  | ((with_reducible refine NQ.g_wqo ?_); walk_at "evo"))
local macro_rules | `(tactic| walk_at "evs") => `(tactic| first
  | with_reducible refine NQ.ws_seq ?_
  | with_reducible refine NQ.ws_next ?_
  | with_reducible refine NQ.ws_brk ?_
  | with_reducible refine NQ.ws_cont ?_
  | with_reducible refine NQ.ws_set ?_
  | with_reducible refine NQ.ws_drop ?_
  | with_reducible refine NQ.ws_ret ?_
  | with_reducible refine NQ.ws_retN ?_
  | with_reducible refine NQ.ws_if ?_
  | with_reducible refine NQ.ws_for ?_
  | with_reducible refine NQ.ws_asg ?_
  | with_reducible refine NQ.ws_raise ?_
  | with_reducible refine NQ.ws_match ?_
  | with_reducible refine NQ.ws_mNil ?_
  | with_reducible refine NQ.ws_mAny ?_
  | with_reducible refine NQ.ws_mCs ?_
  | with_reducible refine NQ.ws_mCg ?_
  | with_reducible refine NQ.ws_tryAs ?_
  | with_reducible refine NQ.ws_try ?_
  | with_reducible refine NQ.ws_par2 ?_
  | with_reducible refine NQ.ws_mov ?_
  | with_reducible refine NQ.ws_bor ?_
  | with_reducible refine NQ.ws_setO ?_
  | with_reducible refine NQ.ws_forK ?_
  | with_reducible refine NQ.ws_tryA ?_
  | with_reducible refine NQ.ws_hdN ?_
  | with_reducible refine NQ.ws_hd1 ?_
  | with_reducible refine NQ.ws_hdA ?_
  | with_reducible refine NQ.ws_setN ?_
  | with_reducible refine NQ.ws_setIx ?_
  | ((with_reducible refine' NQ.ws_retV ?z1 ?_); (case z1 => exact rfl))
  | ((with_reducible refine' NQ.ws_aug ?z1 ?_); (case z1 => exact rfl))
  | ((with_reducible refine' NQ.ws_frz ?z1 ?_); (case z1 => exact rfl))
  | with_reducible refine NQ.ws_fld ?_
  | with_reducible refine NQ.ws_afld ?_
  | with_reducible refine NQ.ws_putD ?_
  | with_reducible refine NQ.ws_setP ?_)
local macro_rules | `(tactic| walk_at "eve") => `(tactic| first
  | with_reducible refine NQ.we_srt ?_
  | with_reducible refine NQ.we_sp ?_
  | with_reducible refine NQ.we_notW ?_
  | with_reducible refine NQ.we_tupRg ?_
  | with_reducible refine NQ.we_lstRg ?_
  | with_reducible refine NQ.we_ch ?_
  | with_reducible refine NQ.we_makeK ?_
  | with_reducible refine NQ.we_cm ?_
  | with_reducible refine NQ.we_lstO ?_
  | with_reducible refine NQ.we_callT ?_
  | with_reducible refine NQ.we_app ?_
  | with_reducible refine NQ.we_appP ?_
  | with_reducible refine NQ.we_newK ?_
  | with_reducible refine NQ.we_newT ?_
  | with_reducible refine NQ.we_make ?_
  | with_reducible refine NQ.we_methF ?_
  | ((with_reducible refine' NQ.we_meth ?z1 ?z2 ?_); (case z1 => exact rfl); (case z2 => decide +kernel))
  | with_reducible refine NQ.we_qE ?_
  | with_reducible refine NQ.we_opn ?_
  | with_reducible refine NQ.we_opnc ?_
  | with_reducible refine NQ.we_disp ?_
  | with_reducible refine NQ.we_call ?_
  | with_reducible refine NQ.we_if ?_
  | with_reducible refine NQ.we_andW ?_
  | with_reducible refine NQ.we_orW ?_
  | with_reducible refine NQ.we_lc ?_)
local macro_rules | `(tactic| walk_at "evt") => `(tactic| first
  | with_reducible refine NQ.wt_asB ?_
  | with_reducible refine NQ.wt_asTru ?_
  | with_reducible refine NQ.wt_not ?_
  | with_reducible refine NQ.wt_and ?_
  | with_reducible refine NQ.wt_or ?_
  | with_reducible refine NQ.wt_b ?_
  | with_reducible refine NQ.wt_i ?_
  | with_reducible refine NQ.wt_l ?_
  | with_reducible refine NQ.wt_n ?_
  | ((with_reducible refine' NQ.wt_s ?z1 ?_); (case z1 => first | assumption | omega | (simp only [List.length_cons, List.length_nil, List.length_append, List.length_map, NQ.rg_len, List.length_range, Str.length_append] <;> omega) | decide +kernel)))
local macro_rules | `(tactic| walk_at "ev1") => `(tactic| first
  | ((with_reducible refine NQ.g_wq ?_); walk_at "evq")
  | ((with_reducible refine NQ.g_ws ?_); walk_at "evs")
  | ((with_reducible refine NQ.g_we ?_); walk_at "eve")
  | ((with_reducible refine NQ.g_wt ?_); walk_at "evt")
  | ((with_reducible refine' NQ.nm_eq ?z1 ?_); (case z1 => (simp only [NQ.st0, NQ.stS, NQ.wp0, NQ.wpS, NQ.wb0, NQ.wbV, NQ.wbE, NQ.sk0, NQ.skV, NQ.skE, NQ.isO_fz, NQ.isO_vw, NQ.isO_all, NQ.isO_opt, NQ.isO_flds, NQ.isO_row, NQ.mp0, NQ.mpS, NQ.ap0, NQ.apS, NQ.rp0, NQ.rpS, if_true, if_false, Bool.false_eq_true] <;> exact rfl)))
  | with_reducible refine NQ.pw_nil ?_
  | with_reducible refine NQ.pw_fld ?_
  | with_reducible refine NQ.pw_ix ?_
  | with_reducible refine NQ.bk_mk ?_
  | with_reducible refine NQ.wi_en2 ?_
  | with_reducible refine NQ.wi_z ?_
  | with_reducible refine NQ.wo_nil ?_
  | with_reducible refine NQ.wo_new ?_
  | ((with_reducible refine' NQ.wo_mov ?z1 ?_); (case z1 => exact rfl))
  | with_reducible refine NQ.mkn ?_
  | ((with_reducible refine' NQ.mthF ?z1 ?_); (case z1 => first | assumption | decide +kernel))
  | ((with_reducible refine' NQ.fp_here ?z1 ?z2 ?_); (case z1 => (show _ < 1000; decide)); (case z2 => exact rfl))
  | with_reducible refine NQ.wa_nil ?_
  | with_reducible refine NQ.wa_val ?_
  | with_reducible refine NQ.wl_nil ?_
  | with_reducible refine NQ.wl_cons ?_
  | with_reducible refine NQ.wb_asBE ?_
  | with_reducible refine NQ.wb_asTruE ?_
  | with_reducible refine NQ.wb_qB ?_
  | with_reducible refine NQ.wb_yes ?_
  | with_reducible refine NQ.wb_not ?_
  | with_reducible refine NQ.wb_and ?_
  | with_reducible refine NQ.wb_or ?_
  | with_reducible refine NQ.wd_gN ?_
  | with_reducible refine NQ.wd_nil ?_
  | with_reducible refine NQ.wd_cons ?_
  | with_reducible refine NQ.wi_it ?_
  | with_reducible refine NQ.wi_r1 ?_
  | with_reducible refine NQ.wi_r2 ?_
  | with_reducible refine NQ.wi_en ?_
  | ((with_reducible refine' NQ.wa_var ?z1 ?_); (case z1 => exact rfl))
  | ((with_reducible refine' NQ.wd_gT ?z1 ?_); (case z1 => exact rfl))
  | ((with_reducible refine' NQ.wf_eq ?z1 ?_); (case z1 => assumption))
  | ((with_reducible refine' NQ.wf_eqX ?z1 ?_); (case z1 => assumption))
  | with_reducible refine NQ.wtw_b ?_
  | with_reducible refine NQ.wtw_n ?_
  | with_reducible refine NQ.wtw_i ?_
  | with_reducible refine NQ.wtw_l ?_
  | ((with_reducible refine' NQ.ite_t ?z1 ?_); (case z1 => first | exact rfl | assumption | exact decide_eq_true (by assumption)))
  | ((with_reducible refine' NQ.ite_f ?z1 ?_); (case z1 => first | exact rfl | assumption | exact decide_eq_false (by assumption)))
  | with_reducible refine NQ.is_mk ?_
  | ((with_reducible refine' NQ.at_mk ?z1 ?_); (case z1 => exact rfl))
  | ((with_reducible refine' NQ.so_mk ?z1 ?_); (case z1 => first | assumption | exact rfl))
  | ((with_reducible refine' NQ.s2_mk ?z1 ?_); (case z1 => first | assumption))
  | ((with_reducible refine' NQ.so_mk (t := true) ?z1 ?_); (case z1 => decide +kernel))
  | ((with_reducible refine' NQ.so_mk (t := false) ?z1 ?_); (case z1 => decide +kernel))
  | ((with_reducible refine' NQ.sd_mk ?z1 ?_); (case z1 => first | exact rfl | assumption | omega | exact NQ.insAt_c rfl rfl | exact NQ.insAt_c rfl (NQ.insAt_c rfl rfl) | exact ⟨_, _, rfl⟩ | (simp only [List.length_cons, List.length_nil, List.length_append, List.length_map, NQ.rg_len, List.length_range, NQ.sz_eq] <;> omega) | decide))
  | ((with_reducible refine' NQ.fn_mk ?z1 ?_); (case z1 => walk_at "fin"))
  | ((with_reducible refine' NQ.wf_fn ?_)))
local macro_rules | `(tactic| walk_at "ev") => `(tactic| repeat walk_at "ev1")
local macro_rules | `(tactic| walk_at "evro") => `(tactic| first
  | ((with_reducible refine' NQ.wo_ix_l ?z1 ?_); (case z1 => first | exact NQ.atI0 | exact NQ.atI1 | exact NQ.atI2 | exact NQ.atI3 | exact NQ.atI4 | with_reducible assumption))
  | ((with_reducible refine' NQ.wo_ix_t ?z1 ?_); (case z1 => first | exact NQ.atI0 | exact NQ.atI1 | exact NQ.atI2 | exact NQ.atI3 | exact NQ.atI4 | with_reducible assumption))
  | ((with_reducible refine' NQ.wo_fld ?z1 ?_); (case z1 => exact rfl))
  | ((with_reducible refine' NQ.wo_eq ?z1 ?_); (case z1 => first | with_reducible assumption | exact NQ.eqB_ii | exact NQ.eqB_ss | exact NQ.eqB_bb | exact NQ.eqB_pl 9 (by first | rfl | with_reducible assumption) (by first | rfl | with_reducible assumption)))
  | ((with_reducible refine' NQ.wo_ne ?z1 ?_); (case z1 => first | with_reducible assumption | exact NQ.eqB_ii | exact NQ.eqB_ss | exact NQ.eqB_bb | exact NQ.eqB_pl 9 (by first | rfl | with_reducible assumption) (by first | rfl | with_reducible assumption)))
  | with_reducible refine NQ.wo_addi ?_
  | with_reducible refine NQ.wo_len_l ?_
  | ((with_reducible refine' NQ.wo_ix_dt ?z1 ?z2 ?_); (case z1 => first | exact rfl | with_reducible assumption); (case z2 => with_reducible assumption))
  | with_reducible refine NQ.wo_addAi ?_
  | with_reducible refine NQ.wo_addI ?_
  | with_reducible refine NQ.wo_subI ?_
  | with_reducible refine NQ.wo_subi ?_
  | with_reducible refine NQ.wo_cmp ?_
  | with_reducible refine NQ.wo_neg ?_
  | with_reducible refine NQ.wo_isN ?_
  | with_reducible refine NQ.wo_notN ?_
  | with_reducible refine NQ.wo_len_t ?_
  | with_reducible refine NQ.wo_len_c ?_
  | with_reducible refine NQ.wo_int_i ?_
  | with_reducible refine NQ.wo_int_b ?_
  | with_reducible refine NQ.wo_str_s ?_
  | with_reducible refine NQ.wo_abs ?_
  | with_reducible refine NQ.wo_max ?_
  | with_reducible refine NQ.wo_min ?_
  | with_reducible refine NQ.wo_list_l ?_
  | with_reducible refine NQ.wo_list_t ?_
  | with_reducible refine NQ.wo_list_c ?_
  | with_reducible refine NQ.wo_tuple ?_
  | with_reducible refine NQ.wo_slL1 ?_
  | with_reducible refine NQ.wo_slL2 ?_
  | with_reducible refine NQ.wo_slL3 ?_
  | ((with_reducible refine' NQ.wo_adds ?z1 ?_); (case z1 => first | with_reducible assumption | omega | (simp only [List.length_cons, List.length_nil, List.length_append, List.length_map, NQ.rg_len, List.length_range, Str.length_append] <;> omega) | decide +kernel))
  | ((with_reducible refine' NQ.wo_addAs ?z1 ?_); (case z1 => first | with_reducible assumption | omega | (simp only [List.length_cons, List.length_nil, List.length_append, List.length_map, NQ.rg_len, List.length_range, Str.length_append] <;> omega) | decide +kernel))
  | ((with_reducible refine' NQ.wo_addL ?z1 ?_); (case z1 => first | with_reducible assumption | omega | (simp only [List.length_cons, List.length_nil, List.length_append, List.length_map, NQ.rg_len, List.length_range, Str.length_append] <;> omega) | decide +kernel))
  | ((with_reducible refine' NQ.wo_addAl ?z1 ?_); (case z1 => first | with_reducible assumption | omega | (simp only [List.length_cons, List.length_nil, List.length_append, List.length_map, NQ.rg_len, List.length_range, Str.length_append] <;> omega) | decide +kernel))
  | ((with_reducible refine' NQ.wo_addU ?z1 ?_); (case z1 => first | with_reducible assumption | omega | (simp only [List.length_cons, List.length_nil, List.length_append, List.length_map, NQ.rg_len, List.length_range, Str.length_append] <;> omega) | decide +kernel))
  | ((with_reducible refine' NQ.wo_len_s ?z1 ?_); (case z1 => first | with_reducible assumption | omega | (simp only [List.length_cons, List.length_nil, List.length_append, List.length_map, NQ.rg_len, List.length_range, Str.length_append] <;> omega) | decide +kernel))
  | ((with_reducible refine' NQ.wo_list_s ?z1 ?_); (case z1 => first | with_reducible assumption | omega | (simp only [List.length_cons, List.length_nil, List.length_append, List.length_map, NQ.rg_len, List.length_range, Str.length_append] <;> omega) | decide +kernel))
  | ((with_reducible refine' NQ.wo_lst ?z1 ?_); (case z1 => first | with_reducible assumption | omega | (simp only [List.length_cons, List.length_nil, List.length_append, List.length_map, NQ.rg_len, List.length_range, Str.length_append] <;> omega) | decide +kernel))
  | ((with_reducible refine' NQ.wo_tup ?z1 ?_); (case z1 => first | with_reducible assumption | omega | (simp only [List.length_cons, List.length_nil, List.length_append, List.length_map, NQ.rg_len, List.length_range, Str.length_append] <;> omega) | decide +kernel))
  | ((with_reducible refine' NQ.wo_slS1 ?z1 ?_); (case z1 => first | with_reducible assumption | omega | (simp only [List.length_cons, List.length_nil, List.length_append, List.length_map, NQ.rg_len, List.length_range, Str.length_append] <;> omega) | decide +kernel))
  | ((with_reducible refine' NQ.wo_slS2 ?z1 ?_); (case z1 => first | with_reducible assumption | omega | (simp only [List.length_cons, List.length_nil, List.length_append, List.length_map, NQ.rg_len, List.length_range, Str.length_append] <;> omega) | decide +kernel))
  | ((with_reducible refine' NQ.wo_slS3 ?z1 ?_); (case z1 => first | with_reducible assumption | omega | (simp only [List.length_cons, List.length_nil, List.length_append, List.length_map, NQ.rg_len, List.length_range, Str.length_append] <;> omega) | decide +kernel))
  | ((with_reducible refine' NQ.wo_words ?z1 ?_); (case z1 => first | with_reducible assumption | omega | (simp only [List.length_cons, List.length_nil, List.length_append, List.length_map, NQ.rg_len, List.length_range, Str.length_append] <;> omega) | decide +kernel))
  | ((with_reducible refine' NQ.wo_strip ?z1 ?_); (case z1 => first | with_reducible assumption | omega | (simp only [List.length_cons, List.length_nil, List.length_append, List.length_map, NQ.rg_len, List.length_range, Str.length_append] <;> omega) | decide +kernel))
  | ((with_reducible refine' NQ.wo_muliR ?z1 ?z2 ?_); (case z1 => first | omega | with_reducible assumption | decide); (case z2 => first | omega | with_reducible assumption | decide))
  | ((with_reducible refine' NQ.wo_muliL ?z1 ?z2 ?_); (case z1 => first | omega | with_reducible assumption | decide); (case z2 => first | omega | with_reducible assumption | decide))
  | ((with_reducible refine' NQ.wo_mulAR ?z1 ?z2 ?_); (case z1 => first | omega | with_reducible assumption | decide); (case z2 => first | omega | with_reducible assumption | decide))
  | ((with_reducible refine' NQ.wo_mulAL ?z1 ?z2 ?_); (case z1 => first | omega | with_reducible assumption | decide); (case z2 => first | omega | with_reducible assumption | decide))
  | ((with_reducible refine' NQ.wo_muls ?z1 ?_); (case z1 => (refine ⟨?_, ?_, ?_⟩ <;> first | omega | decide | (exact Nat.le_of_ble_eq_true rfl) | (simp only [List.length_cons, List.length_nil, List.length_append, List.length_map, NQ.rg_len, List.length_range, Str.length_append] <;> omega) | with_reducible assumption)))
  | ((with_reducible refine' NQ.wo_mulL ?z1 ?_); (case z1 => (refine ⟨?_, ?_, ?_⟩ <;> first | omega | decide | (exact Nat.le_of_ble_eq_true rfl) | (simp only [List.length_cons, List.length_nil, List.length_append, List.length_map, NQ.rg_len, List.length_range, Str.length_append] <;> omega) | with_reducible assumption)))
  | ((with_reducible refine' NQ.wo_mulAl ?z1 ?_); (case z1 => (refine ⟨?_, ?_, ?_⟩ <;> first | omega | decide | (exact Nat.le_of_ble_eq_true rfl) | (simp only [List.length_cons, List.length_nil, List.length_append, List.length_map, NQ.rg_len, List.length_range, Str.length_append] <;> omega) | with_reducible assumption)))
  | ((with_reducible refine' NQ.wo_modi ?z1 ?_); (case z1 => first | omega | with_reducible assumption | decide))
  | ((with_reducible refine' NQ.wo_divi ?z1 ?z2 ?_); (case z1 => first | omega | with_reducible assumption | decide); (case z2 => first | omega | with_reducible assumption | decide))
  | ((with_reducible refine' NQ.wo_powi ?z1 ?z2 ?z3 ?z4 ?_); (case z1 => first | omega | with_reducible assumption | decide); (case z2 => first | omega | with_reducible assumption | decide); (case z3 => first | omega | with_reducible assumption | decide); (case z4 => first | omega | with_reducible assumption | decide))
  | ((with_reducible refine' NQ.wo_in ?z1 ?_); (case z1 => first | with_reducible assumption | exact NQ.memB_ch (by first | rfl | with_reducible assumption) | exact NQ.memB_c (by first | rfl | with_reducible assumption) | exact NQ.memB_l (by first | rfl | with_reducible assumption) (by first | rfl | with_reducible assumption) | exact NQ.memB_t (by first | rfl | with_reducible assumption) (by first | rfl | with_reducible assumption)))
  | ((with_reducible refine' NQ.wo_nin ?z1 ?_); (case z1 => first | with_reducible assumption | exact NQ.memB_ch (by first | rfl | with_reducible assumption) | exact NQ.memB_c (by first | rfl | with_reducible assumption) | exact NQ.memB_l (by first | rfl | with_reducible assumption) (by first | rfl | with_reducible assumption) | exact NQ.memB_t (by first | rfl | with_reducible assumption) (by first | rfl | with_reducible assumption)))
  | ((with_reducible refine' NQ.wo_disp ?z1 ?z2 ?z3 ?_); (case z1 => decide +kernel); (case z2 => exact rfl); (case z3 => decide))
  | ((with_reducible refine' NQ.wo_split ?z1 ?z2 ?_); (case z1 => first | exact rfl | with_reducible assumption | decide +kernel); (case z2 => first | with_reducible assumption | omega | (simp only [List.length_cons, List.length_nil, List.length_append, List.length_map, NQ.rg_len, List.length_range, Str.length_append] <;> omega) | decide +kernel))
  | ((with_reducible refine' NQ.wo_join ?z1 ?z2 ?_); (case z1 => first | with_reducible assumption | exact rfl); (case z2 => first | with_reducible assumption))
  | ((with_reducible refine' NQ.wo_ixR_l ?z1 ?z2 ?_); (case z1 => first | exact NQ.atI0 | exact NQ.atI1 | exact NQ.atI2 | exact NQ.atI3 | exact NQ.atI4 | with_reducible assumption); (case z2 => first | exact rfl | with_reducible assumption))
  | ((with_reducible refine' NQ.wo_ixR_t ?z1 ?z2 ?_); (case z1 => first | exact NQ.atI0 | exact NQ.atI1 | exact NQ.atI2 | exact NQ.atI3 | exact NQ.atI4 | with_reducible assumption); (case z2 => first | exact rfl | with_reducible assumption))
  | ((with_reducible refine' NQ.wo_ix_s ?z1 ?z2 ?_); (case z1 => with_reducible assumption); (case z2 => first | with_reducible assumption | omega | (simp only [List.length_cons, List.length_nil, List.length_append, List.length_map, NQ.rg_len, List.length_range, Str.length_append] <;> omega) | decide +kernel))
  | ((with_reducible refine' NQ.wo_isi ?z1 ?z2 ?_); (case z1 => first | with_reducible assumption | exact rfl); (case z2 => first | with_reducible assumption | exact rfl))
  | ((with_reducible refine' NQ.wo_ix_d ?z1 ?z2 ?_); (case z1 => exact rfl); (case z2 => with_reducible assumption)))
local macro_rules | `(tactic| walk_at "evrq") => `(tactic| first
  | with_reducible refine NQ.wq_ePq ?_
  | with_reducible refine NQ.wq_notV ?_
  | with_reducible refine NQ.wq_isX ?_
  | ((with_reducible refine' NQ.wq_eP ?z1 ?z2 ?_); (case z1 => exact rfl); (case z2 => exact rfl))
  | ((with_reducible refine' NQ.wq_eq ?z1 ?_); (case z1 => with_reducible assumption))
  | with_reducible refine NQ.wq_opq ?_
  | with_reducible refine NQ.wq_eC ?_
  | with_reducible refine NQ.wq_if ?_
  | with_reducible refine NQ.wq_andV ?_
  | with_reducible refine NQ.wq_orV ?_
  | with_reducible refine NQ.wq_ch ?_
  | ((with_reducible refine' NQ.wq_eV ?z1 ?_); (case z1 => exact rfl))
  | ((with_reducible refine NQ.g_wqo ?_); walk_at "evro"))
local macro_rules | `(tactic| walk_at "evrs") => `(tactic| first
  | with_reducible refine NQ.ws_seq ?_
  | with_reducible refine NQ.ws_next ?_
  | with_reducible refine NQ.ws_brk ?_
  | with_reducible refine NQ.ws_cont ?_
  | with_reducible refine NQ.ws_set ?_
  | with_reducible refine NQ.ws_drop ?_
  | with_reducible refine NQ.ws_ret ?_
  | with_reducible refine NQ.ws_retN ?_
  | with_reducible refine NQ.ws_if ?_
  | with_reducible refine NQ.ws_for ?_
  | with_reducible refine NQ.ws_asg ?_
  | with_reducible refine NQ.ws_raise ?_
  | with_reducible refine NQ.ws_match ?_
  | with_reducible refine NQ.ws_mNil ?_
  | with_reducible refine NQ.ws_mAny ?_
  | with_reducible refine NQ.ws_mCs ?_
  | with_reducible refine NQ.ws_mCg ?_
  | with_reducible refine NQ.ws_tryAs ?_
  | with_reducible refine NQ.ws_try ?_
  | with_reducible refine NQ.ws_par2 ?_
  | with_reducible refine NQ.ws_mov ?_
  | with_reducible refine NQ.ws_bor ?_
  | with_reducible refine NQ.ws_setO ?_
  | with_reducible refine NQ.ws_forK ?_
  | with_reducible refine NQ.ws_tryA ?_
  | with_reducible refine NQ.ws_hdN ?_
  | with_reducible refine NQ.ws_hd1 ?_
  | with_reducible refine NQ.ws_hdA ?_
  | with_reducible refine NQ.ws_setN ?_
  | with_reducible refine NQ.ws_setIx ?_
  | ((with_reducible refine' NQ.ws_retV ?z1 ?_); (case z1 => exact rfl))
  | ((with_reducible refine' NQ.ws_aug ?z1 ?_); (case z1 => exact rfl))
  | ((with_reducible refine' NQ.ws_frz ?z1 ?_); (case z1 => exact rfl))
  | with_reducible refine NQ.ws_fld ?_
  | with_reducible refine NQ.ws_afld ?_
  | with_reducible refine NQ.ws_putD ?_
  | with_reducible refine NQ.ws_setP ?_)
local macro_rules | `(tactic| walk_at "evre") => `(tactic| first
  | with_reducible refine NQ.we_srt ?_
  | with_reducible refine NQ.we_sp ?_
  | with_reducible refine NQ.we_notW ?_
  | with_reducible refine NQ.we_tupRg ?_
  | with_reducible refine NQ.we_lstRg ?_
  | with_reducible refine NQ.we_ch ?_
  | with_reducible refine NQ.we_makeK ?_
  | with_reducible refine NQ.we_cm ?_
  | with_reducible refine NQ.we_lstO ?_
  | with_reducible refine NQ.we_callT ?_
  | with_reducible refine NQ.we_app ?_
  | with_reducible refine NQ.we_appP ?_
  | with_reducible refine NQ.we_newK ?_
  | with_reducible refine NQ.we_newT ?_
  | with_reducible refine NQ.we_make ?_
  | with_reducible refine NQ.we_methF ?_
  | ((with_reducible refine' NQ.we_meth ?z1 ?z2 ?_); (case z1 => exact rfl); (case z2 => decide +kernel))
  | with_reducible refine NQ.we_qE ?_
  | with_reducible refine NQ.we_opn ?_
  | with_reducible refine NQ.we_opnc ?_
  | with_reducible refine NQ.we_disp ?_
  | with_reducible refine NQ.we_call ?_
  | with_reducible refine NQ.we_if ?_
  | with_reducible refine NQ.we_andW ?_
  | with_reducible refine NQ.we_orW ?_
  | with_reducible refine NQ.we_lc ?_)
local macro_rules | `(tactic| walk_at "evrt") => `(tactic| first
  | with_reducible refine NQ.wt_asB ?_
  | with_reducible refine NQ.wt_asTru ?_
  | with_reducible refine NQ.wt_not ?_
  | with_reducible refine NQ.wt_and ?_
  | with_reducible refine NQ.wt_or ?_
  | with_reducible refine NQ.wt_b ?_
  | with_reducible refine NQ.wt_i ?_
  | with_reducible refine NQ.wt_l ?_
  | with_reducible refine NQ.wt_n ?_
  | ((with_reducible refine' NQ.wt_s ?z1 ?_); (case z1 => first | with_reducible assumption | omega | (simp only [List.length_cons, List.length_nil, List.length_append, List.length_map, NQ.rg_len, List.length_range, Str.length_append] <;> omega) | decide +kernel)))
local macro_rules | `(tactic| walk_at "evr1") => `(tactic| first
  | ((with_reducible refine NQ.g_wq ?_); walk_at "evrq")
  | ((with_reducible refine NQ.g_ws ?_); walk_at "evrs")
  | ((with_reducible refine NQ.g_we ?_); walk_at "evre")
  | ((with_reducible refine NQ.g_wt ?_); walk_at "evrt")
  | ((with_reducible refine' NQ.nm_eq ?z1 ?_); (case z1 => (simp only [NQ.st0, NQ.stS, NQ.wp0, NQ.wpS, NQ.wb0, NQ.wbV, NQ.wbE, NQ.sk0, NQ.skV, NQ.skE, NQ.isO_fz, NQ.isO_vw, NQ.isO_all, NQ.isO_opt, NQ.isO_flds, NQ.isO_row, NQ.mp0, NQ.mpS, NQ.ap0, NQ.apS, NQ.rp0, NQ.rpS, if_true, if_false, Bool.false_eq_true] <;> exact rfl)))
  | with_reducible refine NQ.pw_nil ?_
  | with_reducible refine NQ.pw_fld ?_
  | with_reducible refine NQ.pw_ix ?_
  | with_reducible refine NQ.bk_mk ?_
  | with_reducible refine NQ.wi_en2 ?_
  | with_reducible refine NQ.wi_z ?_
  | with_reducible refine NQ.wo_nil ?_
  | with_reducible refine NQ.wo_new ?_
  | ((with_reducible refine' NQ.wo_mov ?z1 ?_); (case z1 => exact rfl))
  | with_reducible refine NQ.mkn ?_
  | ((with_reducible refine' NQ.mthF ?z1 ?_); (case z1 => first | with_reducible assumption | decide +kernel))
  | ((with_reducible refine' NQ.fp_here ?z1 ?z2 ?_); (case z1 => (show _ < 1000; decide)); (case z2 => exact rfl))
  | with_reducible refine NQ.wa_nil ?_
  | with_reducible refine NQ.wa_val ?_
  | with_reducible refine NQ.wl_nil ?_
  | with_reducible refine NQ.wl_cons ?_
  | with_reducible refine NQ.wb_asBE ?_
  | with_reducible refine NQ.wb_asTruE ?_
  | with_reducible refine NQ.wb_qB ?_
  | with_reducible refine NQ.wb_yes ?_
  | with_reducible refine NQ.wb_not ?_
  | with_reducible refine NQ.wb_and ?_
  | with_reducible refine NQ.wb_or ?_
  | with_reducible refine NQ.wd_gN ?_
  | with_reducible refine NQ.wd_nil ?_
  | with_reducible refine NQ.wd_cons ?_
  | with_reducible refine NQ.wi_it ?_
  | with_reducible refine NQ.wi_r1 ?_
  | with_reducible refine NQ.wi_r2 ?_
  | with_reducible refine NQ.wi_en ?_
  | ((with_reducible refine' NQ.wa_var ?z1 ?_); (case z1 => exact rfl))
  | ((with_reducible refine' NQ.wd_gT ?z1 ?_); (case z1 => exact rfl))
  | ((with_reducible refine' NQ.wf_eq ?z1 ?_); (case z1 => with_reducible assumption))
  | ((with_reducible refine' NQ.wf_eqX ?z1 ?_); (case z1 => with_reducible assumption))
  | with_reducible refine NQ.wtw_b ?_
  | with_reducible refine NQ.wtw_n ?_
  | with_reducible refine NQ.wtw_i ?_
  | with_reducible refine NQ.wtw_l ?_
  | ((with_reducible refine' NQ.ite_t ?z1 ?_); (case z1 => first | exact rfl | with_reducible assumption | exact decide_eq_true (by with_reducible assumption)))
  | ((with_reducible refine' NQ.ite_f ?z1 ?_); (case z1 => first | exact rfl | with_reducible assumption | exact decide_eq_false (by with_reducible assumption)))
  | with_reducible refine NQ.is_mk ?_
  | ((with_reducible refine' NQ.at_mk ?z1 ?_); (case z1 => exact rfl))
  | ((with_reducible refine' NQ.so_mk ?z1 ?_); (case z1 => first | with_reducible assumption | exact rfl))
  | ((with_reducible refine' NQ.s2_mk ?z1 ?_); (case z1 => first | with_reducible assumption))
  | ((with_reducible refine' NQ.so_mk (t := true) ?z1 ?_); (case z1 => decide +kernel))
  | ((with_reducible refine' NQ.so_mk (t := false) ?z1 ?_); (case z1 => decide +kernel))
  | ((with_reducible refine' NQ.sd_mk ?z1 ?_); (case z1 => first | exact rfl | with_reducible assumption | omega | exact NQ.insAt_c rfl rfl | exact NQ.insAt_c rfl (NQ.insAt_c rfl rfl) | exact ⟨_, _, rfl⟩ | (simp only [List.length_cons, List.length_nil, List.length_append, List.length_map, NQ.rg_len, List.length_range, NQ.sz_eq] <;> omega) | decide))
  | ((with_reducible refine' NQ.fn_mk ?z1 ?_); (case z1 => walk_at "fin"))
  | ((with_reducible refine' NQ.wf_fn ?_)))
local macro_rules | `(tactic| walk_at "evr") => `(tactic| repeat walk_at "evr1")
def top (i : Nat) : Stmt := PySem.Challenge.pw_nowlater_k01_sums.main.body.getD i (.Pass ⟨0, 0, 0, 0⟩)
abbrev FnP (K : PySem.W.Frag) (x qual : Str) (st : Stmt) (f : Addr) (fd : FuncData) : Prop := FunD K x qual (defArgs st) (defBody st) (defScope st) [] [] f fd
structure Txt (K : PySem.W.Frag) (mg : Str → Option Value) : Prop where
  n_abs : mg "abs" = none
  n_bool : mg "bool" = none
  n_enumerate : mg "enumerate" = none
  n_int : mg "int" = none
  n_isinstance : mg "isinstance" = none
  n_len : mg "len" = none
  n_list : mg "list" = none
  n_max : mg "max" = none
  n_min : mg "min" = none
  n_range : mg "range" = none
  n_sorted : mg "sorted" = none
  n_str : mg "str" = none
  g_MOST_TERMS : GV mg "MOST_TERMS" (.int 5)
  g_BadSum : GV mg "BadSum" (.ref (He.ga K "BadSum"))
  m_BadSum : mg "BadSum" = some (.ref (He.ga K "BadSum"))
  g_Sum : GV mg "Sum" (.ref (He.ga K "Sum"))
  m_Sum : mg "Sum" = some (.ref (He.ga K "Sum"))
  c_Sum : Cls K (He.ga K "Sum")
  a_Sum_terms : NoAttr K (He.ga K "Sum") "terms"
  a_Sum_shown : NoAttr K (He.ga K "Sum") "shown"
  nob : nobB K = true
abbrev s_law_seed : Stmt := (top 10)
theorem sc_law_seed : FnScope ["_law_script", "_law_at", "_law_cell", "_law_mixed", "_law_k", "_law_each"] ["_law_script", "_law_at"] (defScope s_law_seed) := ⟨rfl, rfl, rfl, by decide +kernel, rfl, by decide +kernel, by decide +kernel⟩
abbrev s_law_take : Stmt := (top 11)
theorem sc_law_take : FnScope ["_law_bag", "_law_many", "_law_digit"] ["_law_bag", "_law_many"] (defScope s_law_take) := ⟨rfl, rfl, rfl, by decide +kernel, rfl, by decide +kernel, by decide +kernel⟩
abbrev s_law_of : Stmt := (top 12)
theorem sc_law_of : FnScope ["_law_bag", "_law_some"] ["_law_bag", "_law_some"] (defScope s_law_of) := ⟨rfl, rfl, rfl, by decide +kernel, rfl, by decide +kernel, by decide +kernel⟩
abbrev s_is_number : Stmt := (top 5)
theorem sc_is_number : FnScope ["token", "char"] ["token"] (defScope s_is_number) := ⟨rfl, rfl, rfl, by decide +kernel, rfl, by decide +kernel, by decide +kernel⟩
abbrev s_read_sum : Stmt := (top 8)
theorem sc_read_sum : FnScope ["tokens", "start", "names", "terms", "factor", "at", "token"] ["tokens", "start", "names"] (defScope s_read_sum) := ⟨rfl, rfl, rfl, by decide +kernel, rfl, by decide +kernel, by decide +kernel⟩
abbrev s_Sum___init__ : Stmt := (inClass (top 6) 0)
theorem sc_Sum___init__ : FnScope ["self", "text", "names", "tokens", "terms", "stop"] ["self", "text", "names"] (defScope s_Sum___init__) := ⟨rfl, rfl, rfl, by decide +kernel, rfl, by decide +kernel, by decide +kernel⟩
abbrev s_law_names : Stmt := (top 13)
theorem sc_law_names : FnScope ["_law_bag", "_law_many", "_law_first", "_law_names_here", "_law_k", "_law_letters", "_law_turn"] ["_law_bag", "_law_many"] (defScope s_law_names) := ⟨rfl, rfl, rfl, by decide +kernel, rfl, by decide +kernel, by decide +kernel⟩
abbrev s_sum_of : Stmt := (top 7)
theorem sc_sum_of : FnScope ["terms", "values", "total", "factor", "term"] ["terms", "values"] (defScope s_sum_of) := ⟨rfl, rfl, rfl, by decide +kernel, rfl, by decide +kernel, by decide +kernel⟩
abbrev s_law_terms : Stmt := (top 15)
theorem sc_law_terms : FnScope ["_law_bag", "_law_names_here", "_law_many", "_law_terms_here", "_law_turn", "_law_thing"] ["_law_bag", "_law_names_here", "_law_many"] (defScope s_law_terms) := ⟨rfl, rfl, rfl, by decide +kernel, rfl, by decide +kernel, by decide +kernel⟩
abbrev s_law_sum_text : Stmt := (top 16)
theorem sc_law_sum_text : FnScope ["_law_terms_here", "_law_k", "_law_sign", "_law_thing"] ["_law_terms_here"] (defScope s_law_sum_text) := ⟨rfl, rfl, rfl, by decide +kernel, rfl, by decide +kernel, by decide +kernel⟩
abbrev s_law_value : Stmt := (top 17)
theorem sc_law_value : FnScope ["_law_terms_here", "_law_values_here", "_law_total", "_law_sign", "_law_thing", "_law_each"] ["_law_terms_here", "_law_values_here"] (defScope s_law_value) := ⟨rfl, rfl, rfl, by decide +kernel, rfl, by decide +kernel, by decide +kernel⟩
abbrev s_Sum___str__ : Stmt := (inClass (top 6) 2)
theorem sc_Sum___str__ : FnScope ["self"] ["self"] (defScope s_Sum___str__) := ⟨rfl, rfl, rfl, by decide +kernel, rfl, by decide +kernel, by decide +kernel⟩
abbrev s_Sum___call__ : Stmt := (inClass (top 6) 1)
theorem sc_Sum___call__ : FnScope ["self", "values"] ["self", "values"] (defScope s_Sum___call__) := ⟨rfl, rfl, rfl, by decide +kernel, rfl, by decide +kernel, by decide +kernel⟩
abbrev s_law_integer : Stmt := (top 14)
theorem sc_law_integer : FnScope ["_law_thing"] ["_law_thing"] (defScope s_law_integer) := ⟨rfl, rfl, rfl, by decide +kernel, rfl, by decide +kernel, by decide +kernel⟩
abbrev s_Sum_mentions : Stmt := (inClass (top 6) 3)
theorem sc_Sum_mentions : FnScope ["self", "factor", "word"] ["self"] (defScope s_Sum_mentions) := ⟨rfl, rfl, rfl, by decide +kernel, rfl, by decide +kernel, by decide +kernel⟩
abbrev s_law_values : Stmt := (top 18)
theorem sc_law_values : FnScope ["_law_bag", "_law_names_here", "_law_is_one", "_law_size", "_law_one", "_law_values_here", "_law_name", "_law_each"] ["_law_bag", "_law_names_here"] (defScope s_law_values) := ⟨rfl, rfl, rfl, by decide +kernel, rfl, by decide +kernel, by decide +kernel⟩
abbrev s_law : Stmt := (top 19)
theorem sc_law : FnScope ["_law_script", "_law_at", "_law_bag", "_law_names_here", "_law_terms_here", "_law_text", "_law_blanks", "_law_wide", "_law_handed", "_law_total", "_law_other", "_law_turn", "_law_values_here", "_law_kept", "_law_name", "_law_told", "_law_due", "_law_sign", "_law_thing", "_law_found"] ["_law_script"] (defScope s_law) := ⟨rfl, rfl, rfl, by decide +kernel, rfl, by decide +kernel, by decide +kernel⟩
abbrev s_BadSum___init__ : Stmt := (inClass (top 2) 0)
theorem sc_BadSum___init__ : FnScope ["self", "at"] ["self", "at"] (defScope s_BadSum___init__) := ⟨rfl, rfl, rfl, by decide +kernel, rfl, by decide +kernel, by decide +kernel⟩
def fxs : List Fx := [.fa (.glo "BadSum"),
  .fa (.int "MOST_TERMS" 5),
  .fa (.glo "Sum"),
  .fa (.glo "_law_integer"),
  .fa (.glo "_law_names"),
  .fa (.glo "_law_of"),
  .fa (.glo "_law_seed"),
  .fa (.glo "_law_sum_text"),
  .fa (.glo "_law_take"),
  .fa (.glo "_law_terms"),
  .fa (.glo "_law_value"),
  .fa (.glo "_law_values"),
  .fa (.free "abs"),
  .fa (.free "bool"),
  .fa (.free "enumerate"),
  .fa (.free "int"),
  .fa (.glo "is_number"),
  .fa (.free "isinstance"),
  .fa (.free "len"),
  .fa (.free "list"),
  .fa (.free "max"),
  .fa (.free "min"),
  .fa (.free "range"),
  .fa (.glo "read_sum"),
  .fa (.free "sorted"),
  .fa (.free "str"),
  .fa (.glo "sum_of"),
  .oex "BadSum",
  .fnI "BadSum",
  .fa (.noat "BadSum" "at"),
  .fa (.cls "Sum"),
  .fa (.mkr "Sum"),
  .fa (.noat "Sum" "terms"),
  .fa (.noat "Sum" "shown"),
  .fa (.meth "Sum" "__str__"),
  .fnF "Sum" "__str__",
  .fa (.meth "Sum" "__call__"),
  .fnF "Sum" "__call__",
  .fa (.meth "Sum" "mentions"),
  .fnF "Sum" "mentions",
  .fa (.glo "law")]
def fys : List Fy := []
def fzs : List Fz := []
def d_BadSum___init__ : He5.DefA := ⟨fun K => He.ma K (He.ga K "BadSum") "__init__", "__init__", "BadSum.__init__", defArgs s_BadSum___init__, defBody s_BadSum___init__, defScope s_BadSum___init__, [], []⟩
def d_law_seed : He5.DefA := ⟨fun K => He.ga K "_law_seed", "_law_seed", "_law_seed", defArgs s_law_seed, defBody s_law_seed, defScope s_law_seed, [], []⟩
def d_law_take : He5.DefA := ⟨fun K => He.ga K "_law_take", "_law_take", "_law_take", defArgs s_law_take, defBody s_law_take, defScope s_law_take, [], []⟩
def d_law_of : He5.DefA := ⟨fun K => He.ga K "_law_of", "_law_of", "_law_of", defArgs s_law_of, defBody s_law_of, defScope s_law_of, [], []⟩
def d_is_number : He5.DefA := ⟨fun K => He.ga K "is_number", "is_number", "is_number", defArgs s_is_number, defBody s_is_number, defScope s_is_number, [], []⟩
def d_read_sum : He5.DefA := ⟨fun K => He.ga K "read_sum", "read_sum", "read_sum", defArgs s_read_sum, defBody s_read_sum, defScope s_read_sum, [], []⟩
def d_Sum___init__ : He5.DefA := ⟨fun K => He.ma K (He.ga K "Sum") "__init__", "__init__", "Sum.__init__", defArgs s_Sum___init__, defBody s_Sum___init__, defScope s_Sum___init__, [], []⟩
def d_law_names : He5.DefA := ⟨fun K => He.ga K "_law_names", "_law_names", "_law_names", defArgs s_law_names, defBody s_law_names, defScope s_law_names, [], []⟩
def d_sum_of : He5.DefA := ⟨fun K => He.ga K "sum_of", "sum_of", "sum_of", defArgs s_sum_of, defBody s_sum_of, defScope s_sum_of, [], []⟩
def d_law_terms : He5.DefA := ⟨fun K => He.ga K "_law_terms", "_law_terms", "_law_terms", defArgs s_law_terms, defBody s_law_terms, defScope s_law_terms, [], []⟩
def d_law_sum_text : He5.DefA := ⟨fun K => He.ga K "_law_sum_text", "_law_sum_text", "_law_sum_text", defArgs s_law_sum_text, defBody s_law_sum_text, defScope s_law_sum_text, [], []⟩
def d_law_value : He5.DefA := ⟨fun K => He.ga K "_law_value", "_law_value", "_law_value", defArgs s_law_value, defBody s_law_value, defScope s_law_value, [], []⟩
def d_Sum___str__ : He5.DefA := ⟨fun K => He.ma K (He.ga K "Sum") "__str__", "__str__", "Sum.__str__", defArgs s_Sum___str__, defBody s_Sum___str__, defScope s_Sum___str__, [], []⟩
def d_Sum___call__ : He5.DefA := ⟨fun K => He.ma K (He.ga K "Sum") "__call__", "__call__", "Sum.__call__", defArgs s_Sum___call__, defBody s_Sum___call__, defScope s_Sum___call__, [], []⟩
def d_law_integer : He5.DefA := ⟨fun K => He.ga K "_law_integer", "_law_integer", "_law_integer", defArgs s_law_integer, defBody s_law_integer, defScope s_law_integer, [], []⟩
def d_Sum_mentions : He5.DefA := ⟨fun K => He.ma K (He.ga K "Sum") "mentions", "mentions", "Sum.mentions", defArgs s_Sum_mentions, defBody s_Sum_mentions, defScope s_Sum_mentions, [], []⟩
def d_law_values : He5.DefA := ⟨fun K => He.ga K "_law_values", "_law_values", "_law_values", defArgs s_law_values, defBody s_law_values, defScope s_law_values, [], []⟩
def d_law : He5.DefA := ⟨fun K => He.ga K "law", "law", "law", defArgs s_law, defBody s_law, defScope s_law, [], []⟩
def fns : List He5.DefA := [d_BadSum___init__, d_law_seed, d_law_take, d_law_of, d_is_number, d_read_sum, d_Sum___init__, d_law_names, d_sum_of, d_law_terms, d_law_sum_text, d_law_value, d_Sum___str__, d_Sum___call__, d_law_integer, d_Sum_mentions, d_law_values, d_law]
abbrev RR : PySem.W.OpenRow := PySem.W.OpenLaw.row PySem.Challenge.rw_nowlater_k01_sums
def ex (K : PySem.W.Frag) : Bool := (fxB fxs K && (fyB fys K && fzB fzs K)) && (nobB K)
def ad0 : List Addr := [3, 6, 4, 24, 44, 53, 89, 100, 107, 114, 121, 128, 133, 140, 147, 152, 159, 166, 171, 0, 23, 43, 52, 88, 99]
def ad1 : List Addr := [106, 113, 120, 127, 132, 139, 146, 151, 158, 165, 170, 22, 25, 41, 42, 47, 48, 49, 50, 51, 67, 74, 81, 86, 87]
def ad2 : List Addr := [90, 91, 94, 95, 96, 97, 98, 101, 102, 103, 104, 105, 108, 109, 110, 111, 112, 115, 116, 117, 118, 119, 122, 123, 124]
def ad3 : List Addr := [125, 126, 129, 130, 131, 134, 135, 136, 137, 138, 141, 142, 143, 144, 145, 148, 149, 150, 153, 154, 155, 156, 157, 160, 161]
def ad4 : List Addr := [162, 163, 164, 167, 168, 169, 40, 66, 73, 80, 85, 35, 36, 37, 38, 39, 61, 62, 63, 64, 65, 68, 69, 70, 71]
def ad5 : List Addr := [72, 75, 76, 77, 78, 79, 82, 83, 84, 2]
/-- the addresses that the names of the program reach -/
def asL : List Addr := PySem.cStatics :: (ad0 ++ (ad1 ++ (ad2 ++ (ad3 ++ (ad4 ++ (ad5))))))
def obsL (as : List Addr) (fn : List He5.DefA) (ex : PySem.W.Frag → Bool) (g : Addr → Option Obj) : He.AlD := obsN0 fn ex (He.frT g as)
def hookL (as : List Addr) (fn : List He5.DefA) (ex : PySem.W.Frag → Bool) : PySem.W.Hook where
  α := He.AlD
  obs := fun s => obsL as fn ex s.heap.get?
  val := fun _ => He5.valA fn
  says := fun _ h => ∃ K : PySem.W.Frag, K.In h ∧ SaysN fn ex K
  of := fun _ _ e => ⟨_, He.frT_in, e⟩
  keeps := fun _ _ _ ⟨K, hK, c⟩ k => ⟨K, PySem.W.Frag.In.keeps hK k, c⟩
theorem obsL_eq {as : List Addr} {fn : List He5.DefA} {ex : PySem.W.Frag → Bool} {g : Addr → Option Obj} {s : Shared} (h : ∀ a, g a = s.heap.get? a) : obsL as fn ex g = (hookL as fn ex).obs s := by
  have e : g = s.heap.get? := funext h
  rw [e] <;> rfl
abbrev hk : PySem.W.Hook := hookL asL fns ex
def obH (s : PySem.W.SharedT) : He.AlD := obsL asL fns ex (HandSHeadRun.getT s)
theorem obH_eq (s : PySem.W.SharedT) : obH s = hk.obs s.abs := obsL_eq (HandSHeadRun.getT_eq s)
def loose0 : List PySem.Str := ["NowlaterError", "BadSum", "MOST_TERMS", "is_number", "Sum", "sum_of", "read_sum", "_law_seed", "_law_take", "_law_of", "_law_names", "_law_integer", "_law_terms", "_law_sum_text", "_law_value", "_law_values"]
abbrev loose : List PySem.Str := loose0
noncomputable abbrev endS (w : World) (os : OsState) : Option PySem.W.SharedT := HandSHeadRun.endF (HandSHeadRun.stepQ (HandSHeadRun.denQ HandSHeadRun.tabQ) RR.prog w) 12000 RR.prog w os
abbrev vwS : PySem.Program := PySem.W.view RR.prog [19]
abbrev frS (s : PySem.W.SharedT) : PySem.W.Frag := He.frT (HandSHeadRun.getT s) asL
theorem run1 (w : World) (os : OsState) : (endS w os).map (fun s => HandSHeadRun.looksF RR.prog (PySem.W.boot_heap w.params) s.abs) = some true := by kernel_rfl
theorem run2 (w : World) (os : OsState) : (endS w os).map (fun s => HandSHeadRun.seenQ vwS loose (PySem.importedModules RR.prog.main.body) (fun s => PySem.W.xlAt vwS [] s && PySem.W.recOk RR.records s) s.abs) = some (PySem.W.openGood vwS loose) := by kernel_rfl
theorem run3 (w : World) (os : OsState) : (endS w os).map (fun s => (fxB fxs (frS s) && (fyB fys (frS s) && fzB fzs (frS s))) && (nobB (frS s))) = some true := by kernel_rfl
theorem run4 (w : World) (os : OsState) : (endS w os).map (fun s => (fns.all fun d => d.ok (frS s), fns.map fun d => He5.fnA (frS s) (d.at_ (frS s)))) = some (true, fns.map He5.DefA.val) := by kernel_rfl
theorem run (w : World) : HandSHeadRun.RunEq RR vwS hk obH 12000 loose w := by
  intro os
  have h1 := run1 w os
  have h2 := run2 w os
  have h3 := run3 w os
  have h4 := run4 w os
  show (endS w os).map (fun s => (HandSHeadRun.looksF RR.prog (PySem.W.boot_heap w.params) s.abs, HandSHeadRun.seenQ vwS loose (PySem.importedModules RR.prog.main.body) (fun s => PySem.W.xlAt vwS [] s && PySem.W.recOk RR.records s) s.abs, obH s)) = some (true, PySem.W.openGood vwS loose, He5.valA fns)
  generalize endS w os = e at h1 h2 h3 h4 ⊢
  cases e with
  | none => cases h1
  | some s =>
    have k1 := Option.some.inj h1
    have k2 := Option.some.inj h2
    have ke : ex (frS s) = true := Option.some.inj h3
    have k4 := Prod.mk.inj (Option.some.inj h4)
    clear h1 h2 h3 h4
    have ko : obH s = He5.valA fns := by
      show (ex (frS s) && fns.all (fun d => d.ok (frS s)), fns.map (fun d => He5.fnA (frS s) (d.at_ (frS s)))) = (true, fns.map He5.DefA.val)
      rw [ke, k4.1, k4.2]; rfl
    exact congrArg some (Prod.ext k1 (Prod.ext k2 ko))
section
open PySem PySem.W PySem.Calls PyProof.Rows
set_option maxHeartbeats 0 in
theorem early (hc : PySem.W.WalkO (view NL.RR.prog [19]) NL.loose (PySem.W.XL (view NL.RR.prog [19]) []) NL.hk.says NL.RR.toRowW (HandSHeadRun.topDef NL.RR.prog 19) [] (fun f vs => PySem.call f vs)) : PySem.Challenge.rw_nowlater_k01_sums.Holds := by
  w_on; o_law
  refine HandSHeadRun.head_any (r := NL.RR) (q := view NL.RR.prog [19]) (H := NL.hk) (ob := NL.obH) (M := 12000) (loose := NL.loose) (d := HandSHeadRun.topDef NL.RR.prog 19) (kwd := []) NL.obH_eq
    (by kernel_rfl) (fun s => by kernel_rfl) NL.run (by kernel_rfl) (by kernel_rfl) (by kernel_rfl) (by rfl) (by first | assumption | decide +kernel) (by decide +kernel) ⟨rfl, rfl, rfl, rfl, rfl, by decide +kernel⟩ ?hw ?hc
  case hw => w_witness2
  case hc => exact hc
end

/-- a token: signs from ! to ~, at least one -/
def Tk (t : Str) : Prop := t.cps.toList ≠ [] ∧ ∀ c ∈ t.cps.toList, 33 ≤ c ∧ c ≤ 126
def Bl (s : Str) : Prop := ∀ c ∈ s.cps.toList, c = 32
theorem sp_no : ∀ c : Nat, c ≤ 126 → 33 ≤ c → Unicode.isSpace c = false := by decide +kernel
theorem sp_yes : Unicode.isSpace 32 = true := by decide +kernel
theorem str_eq {a b : Str} (h : a.cps.toList = b.cps.toList) : a = b := Str.ext' (Array.toList_inj.mp h)
theorem scan_tok : ∀ (l : List Nat) (ws : List Str) (r : Str), (∀ c ∈ l, 33 ≤ c ∧ c ≤ 126) → l.foldl KWd.step (ws, r) = (ws, r ++ ⟨l.toArray⟩)
  | [], ws, r, _ => by
    have e : r ++ (⟨#[]⟩ : Str) = r := str_eq (by rw [Str.cps_append]; simp)
    show (ws, r) = (ws, r ++ ⟨#[]⟩)
    rw [e]
  | c :: l, ws, r, h => by
    have hc := h c (List.mem_cons_self ..)
    rw [List.foldl_cons]
    have e : KWd.step (ws, r) c = (ws, r ++ ⟨#[c]⟩) := by
      unfold KWd.step
      rw [if_neg (by rw [sp_no c hc.2 hc.1]; exact Bool.false_ne_true)]
    rw [e, scan_tok l ws _ fun d hd => h d (List.mem_cons_of_mem _ hd)]
    have e2 : r ++ (⟨#[c]⟩ : Str) ++ (⟨l.toArray⟩ : Str) = r ++ (⟨(c :: l).toArray⟩ : Str) := str_eq (by simp [Str.cps_append])
    rw [e2]
theorem scan_bl0 : ∀ (l : List Nat) (ws : List Str), (∀ c ∈ l, c = 32) → l.foldl KWd.step (ws, Str.empty) = (ws, Str.empty)
  | [], ws, _ => rfl
  | c :: l, ws, h => by
    have hc := h c (List.mem_cons_self ..)
    subst hc
    rw [List.foldl_cons]
    have e : KWd.step (ws, Str.empty) 32 = (ws, Str.empty) := by
      unfold KWd.step
      rw [if_pos sp_yes]
      rfl
    rw [e]
    exact scan_bl0 l ws fun d hd => h d (List.mem_cons_of_mem _ hd)
theorem scan_bl1 (l : List Nat) (ws : List Str) (r : Str) (h : ∀ c ∈ l, c = 32) (h0 : l ≠ []) (hr : r.length ≠ 0) : l.foldl KWd.step (ws, r) = (ws ++ [r], Str.empty) := by
  cases l with
  | nil => exact absurd rfl h0
  | cons c l =>
    have hc := h c (List.mem_cons_self ..)
    subst hc
    rw [List.foldl_cons]
    have e : KWd.step (ws, r) 32 = (ws ++ [r], Str.empty) := by
      unfold KWd.step
      rw [if_pos sp_yes, if_neg hr]
    rw [e]
    exact scan_bl0 l _ fun d hd => h d (List.mem_cons_of_mem _ hd)
theorem tk_len {t : Str} (h : Tk t) : t.length ≠ 0 := by
  intro z
  apply h.1
  have : t.cps.size = 0 := z
  simpa using this
theorem empty_app (t : Str) : Str.empty ++ t = t := str_eq (by rw [Str.cps_append]; simp [Str.empty])
theorem join_cons2 (sep x y : Str) (r : List Str) : Str.join sep (x :: y :: r) = x ++ sep ++ Str.join sep (y :: r) := rfl
theorem scan_join (sep tail : Str) (hs : Bl sep) (hs0 : sep.cps.toList ≠ []) (ht : Bl tail) : ∀ (toks ws : List Str), (∀ t ∈ toks, Tk t) → KWd.fin ((Str.join sep toks ++ tail).cps.toList.foldl KWd.step (ws, Str.empty)) = ws ++ toks
  | [], ws, _ => by
    have e : (Str.join sep [] ++ tail).cps.toList = tail.cps.toList := by
      rw [show Str.join sep [] = Str.empty from rfl, empty_app]
    rw [e, scan_bl0 _ ws ht]
    show (if Str.empty.length = 0 then ws else _) = _
    rw [if_pos (show Str.empty.length = 0 from rfl), List.append_nil]
  | [x], ws, h => by
    have hx := h x (List.mem_cons_self ..)
    rw [show Str.join sep [x] = x from rfl, Str.cps_append, Array.toList_append, List.foldl_append, scan_tok _ ws _ hx.2]
    have e : Str.empty ++ (⟨x.cps.toList.toArray⟩ : Str) = x := by rw [empty_app]
    rw [e]
    by_cases h0 : tail.cps.toList = []
    · rw [h0]
      show (if x.length = 0 then ws else ws ++ [x]) = _
      rw [if_neg (tk_len hx)]
    · rw [scan_bl1 _ ws x ht h0 (tk_len hx)]
      show (if Str.empty.length = 0 then _ else _) = _
      rw [if_pos (show Str.empty.length = 0 from rfl)]
  | x :: y :: r, ws, h => by
    have hx := h x (List.mem_cons_self ..)
    rw [join_cons2]
    have e1 : (x ++ sep ++ Str.join sep (y :: r) ++ tail).cps.toList = x.cps.toList ++ (sep.cps.toList ++ (Str.join sep (y :: r) ++ tail).cps.toList) := by
      simp [Str.cps_append]
    rw [e1, List.foldl_append, scan_tok _ ws _ hx.2, List.foldl_append]
    have e : Str.empty ++ (⟨x.cps.toList.toArray⟩ : Str) = x := by rw [empty_app]
    rw [e, scan_bl1 _ ws x hs hs0 (tk_len hx), scan_join sep tail hs hs0 ht (y :: r) (ws ++ [x]) fun t ht' => h t (List.mem_cons_of_mem _ ht')]
    simp
theorem words_join {head sep tail : Str} {toks : List Str} (hh : Bl head) (hs : Bl sep) (hs0 : sep.cps.toList ≠ []) (ht : Bl tail) (h : ∀ t ∈ toks, Tk t) : Txt.words (head ++ (Str.join sep toks ++ tail)) = toks := by
  rw [KWd.words_scan]
  unfold KWd.scan
  rw [Str.cps_append, Array.toList_append, List.foldl_append, scan_bl0 _ [] hh, scan_join sep tail hs hs0 ht toks [] h, List.nil_append]
theorem join_len_le (sep : Str) (B : Nat) : ∀ (toks : List Str), (∀ t ∈ toks, t.length ≤ B) → (Str.join sep toks).length ≤ toks.length * (B + sep.length)
  | [], _ => by show 0 ≤ _; omega
  | [x], h => by
    have := h x (List.mem_cons_self ..)
    show x.length ≤ 1 * _
    omega
  | x :: y :: r, h => by
    have h1 := h x (List.mem_cons_self ..)
    have h2 := join_len_le sep B (y :: r) fun t ht => h t (List.mem_cons_of_mem _ ht)
    rw [join_cons2, Str.length_append, Str.length_append]
    have e : (x :: y :: r).length * (B + sep.length) = (y :: r).length * (B + sep.length) + (B + sep.length) := by
      rw [List.length_cons, Nat.add_mul, Nat.one_mul]
    omega
theorem sum_len_le {B : Nat} : ∀ {toks : List Str}, (∀ t ∈ toks, t.length ≤ B) → (toks.map (·.length)).sum ≤ toks.length * B
  | [], _ => by simp
  | x :: r, h => by
    have h1 := h x (List.mem_cons_self ..)
    have h2 := sum_len_le (toks := r) fun t ht => h t (List.mem_cons_of_mem _ ht)
    simp only [List.map_cons, List.sum_cons, List.length_cons, Nat.add_mul, Nat.one_mul]
    omega


theorem atI_mem {xs : List V} {i : Int} (h0 : 0 ≤ i) (h1 : i < xs.length) : ∃ v ∈ xs, atI xs i = some v := by
  have hl : i.toNat < xs.length := by omega
  refine ⟨xs[i.toNat], List.getElem_mem hl, ?_⟩
  unfold atI ixN
  rw [if_pos h0, if_pos h1, Option.bind_some, List.getElem?_eq_getElem hl]
theorem atI_int {ns : List Int} {i : Int} (h0 : 0 ≤ i) (h1 : i < (ns.map V.int).length) : ∃ n : Int, atI (ns.map V.int) i = some (.int n) := by
  obtain ⟨v, hv, e⟩ := atI_mem h0 h1
  obtain ⟨n, _, rfl⟩ := List.mem_map.mp hv
  exact ⟨n, e⟩
theorem cutV_mem {xs : List V} {lo hi : Option Int} {v : V} (h : v ∈ cutV xs lo hi) : v ∈ xs := List.mem_of_mem_drop (List.mem_of_mem_take h)
theorem log2_small {n : Nat} (h : n < 2 ^ 9000) (h0 : 0 < n) : n.log2 < 9000 := (Nat.log2_lt (by omega)).mpr h

def sp_law_seed (K : PySem.W.Frag) : Sp := fun vs H Q _ => ∃ (a : Addr) (ns : List Int) (n : Int), vs = [.ref a, .int n] ∧ SqL K H a (ns.map V.int) ∧ 0 ≤ n ∧
  ∀ (p : Addr) (H' : Hp), Same H H' → H p = none → Bag H' p → Q (.ref p) H'
def sp_law_take (K : PySem.W.Frag) : Sp := fun vs H Q _ => ∃ (b : Addr) (many : Int), vs = [.ref b, .int many] ∧ Bag H b ∧ 0 < many ∧ many < 2 ^ 200 ∧
  ∀ (d : Int) (H' : Hp), 0 ≤ d → d < many → Sx [b] H H' → Bag H' b → Q (.int d) H'
def sp_law_of (K : PySem.W.Frag) : Sp := fun vs H Q _ => ∃ (b p : Addr) (xs : List V), vs = [.ref b, .ref p] ∧ Bag H b ∧ H p = some (.lst xs) ∧ p ≠ b ∧ 0 < xs.length ∧ xs.length < 2 ^ 60 ∧
  ∀ (v : V) (H' : Hp), v ∈ xs → Sx [b] H H' → Bag H' b → Q v H'

section
variable {K : PySem.W.Frag} {W : List Addr} {H : Hp} {Q : VK} {E : XK} {b p a : Addr}
theorem call_seed {ns : List Int} {n : Int} (hS : SqL K H a (ns.map V.int)) (h0 : 0 ≤ n) (k : ∀ b H', H b = none → Ed [] H H' → Bag H' b → Q (.ref b) H') : sp_law_seed K [.ref a, .int n] H Q E :=
  ⟨a, ns, n, rfl, hS, h0, fun p H' s hp hb => k p H' hp (Ed.same s) hb⟩
theorem call_take {many : Int} (hb : Bag H b) (h1 : 0 < many) (h2 : many < 2 ^ 200) (k : ∀ d H', 0 ≤ d → d < many → Ed [b] H H' → Bag H' b → Q (.int d) H') : sp_law_take K [.ref b, .int many] H Q E :=
  ⟨b, many, rfl, hb, h1, h2, fun d H' d0 d1 s hb' => k d H' d0 d1 (Ed.sx s fun a z => by rw [List.mem_singleton.mp z]; exact hb'.alive) hb'⟩
theorem call_of {ds : List PyData} (hb : Bag H b) (h : Df W H (.ref p) (.list ds)) (hW : b ∈ W) (h1 : 0 < ds.length) (h2 : ds.length < 2 ^ 60) (k : ∀ v d H', d ∈ ds → Ed [b] H H' → Bag H' b → Df W H' v d → Q v H') : sp_law_of K [.ref b, .ref p] H Q E := by
  obtain ⟨xs, n, hp, r⟩ := h.cells
  refine ⟨b, p, xs, rfl, hb, hp, fun z => n (z ▸ hW), by rw [r.length]; exact h1, by rw [r.length]; exact h2, fun v H' hv s hb' => ?_⟩
  obtain ⟨i, hi, e⟩ := List.mem_iff_getElem.mp hv
  obtain ⟨d, e1, e2⟩ := r.at' (i := i) (v := v) (by rw [List.getElem?_eq_getElem hi, e])
  have ee : Ed [b] H H' := Ed.sx s fun a z => by rw [List.mem_singleton.mp z]; exact hb'.alive
  exact k v d H' (List.mem_of_getElem? e1) ee hb' (e2.ed ee (sub1 hW))
theorem call_ofC {ds : List PyData} (hb : Bag H b) (h : Df W H (.ref p) (.list ds)) (hW : b ∈ W) (k : ∀ v d H', d ∈ ds → Ed [b] H H' → Bag H' b → Df W H' v d → Q v H') (h1 : (Nat.ble 1 ds.length && Nat.ble ds.length 1000) = true := by rfl) : sp_law_of K [.ref b, .ref p] H Q E := by
  rw [Bool.and_eq_true] at h1
  have h2 := Nat.le_of_ble_eq_true h1.1
  have h3 := Nat.le_of_ble_eq_true h1.2
  exact call_of hb h hW (by omega) (by omega) k
end
theorem filter_yes {α : Type} {l : List α} {f : α → Bool} {i : Nat} {x : α} (h : l[i]? = some x) (hf : f x = true) : (l.take (i + 1)).filter f = (l.take i).filter f ++ [x] := by
  rw [List.take_succ, h]; simp [hf]
theorem filter_no {α : Type} {l : List α} {f : α → Bool} {i : Nat} {x : α} (h : l[i]? = some x) (hf : f x = false) : (l.take (i + 1)).filter f = (l.take i).filter f := by
  rw [List.take_succ, h]; simp [hf]
theorem take_snoc {α β : Type} {l : List α} {f : α → β} {i : Nat} {x : α} (h : l[i]? = some x) : (l.take (i + 1)).map f = (l.take i).map f ++ [f x] := by
  rw [List.take_succ, h]; simp
theorem take_all {α β : Type} {l : List α} {f : α → β} {n : Nat} (h : n = (l.map f).length) : l.take n = l := List.take_of_length_le (by rw [h, List.length_map]; exact Nat.le_refl _)
theorem at_map {α β : Type} {l : List α} {f : α → β} {i : Nat} {d : β} (h : (l.map f)[i]? = some d) : ∃ x, l[i]? = some x ∧ d = f x := by
  rw [List.getElem?_map] at h
  cases e : l[i]? with
  | none => rw [e] at h; cases h
  | some x => rw [e] at h; cases h; exact ⟨x, rfl, rfl⟩


def digs : Str := "0123456789"
def isNum (t : Str) : Bool := !(decide (t = "") || decide (3 < (t.length : Int))) && (t.cps.toList.all fun c => decide (c ∈ digs.cps.toList)) && (decide (t = "0") || !decide ((⟨#[t.cps.toList.headD 0]⟩ : Str) = "0"))
theorem atI_zero {l : List Nat} (h : l ≠ []) : atI l 0 = some (l.headD 0) := by
  cases l with
  | nil => exact absurd rfl h
  | cons a r =>
    have h1 : (0 : Int) < ((a :: r).length : Int) := by rw [List.length_cons]; omega
    unfold atI ixN
    rw [if_pos (Int.le_refl 0), if_pos h1]
    rfl
theorem all_take_succ {l : List Nat} {i : Nat} {c : Nat} {f : Nat → Bool} (h : l[i]? = some c) (hc : f c = true) (ha : (l.take i).all f = true) : (l.take (i + 1)).all f = true := by
  rw [List.take_succ, h, List.all_append, ha]
  simp [hc]
theorem all_no {l : List Nat} {i : Nat} {c : Nat} {f : Nat → Bool} (h : l[i]? = some c) (hc : f c = false) : l.all f = false := by
  rw [List.all_eq_false]
  exact ⟨c, List.mem_of_getElem? h, by simp [hc]⟩
theorem nil_of_ne {t : Str} (h : ¬ t = "") : t.cps.toList ≠ [] := fun z => h (str_eq z)

def sp_is_number (K : PySem.W.Frag) : Sp := fun vs H Q _ => ∃ t : Str, vs = [.str t] ∧ t.length ≤ 10000 ∧ Q (.bl (isNum t)) H

inductive Tm where
  | num (n : Int) | nam (s : Str)
def Tm.v : Tm → V
  | .num n => .int n
  | .nam s => .str s
abbrev Terms := List (Int × Tm)
def numVal (t : Str) : Int := (PySem.intText? t).getD 0
def termOf (names : List Str) (t : Str) : Option Tm := if t ∈ names then some (.nam t) else if isNum t = true then some (.num (numVal t)) else none
def signOf (t : Str) : Int := if t = "+" then 1 else -1
def isOp (t : Str) : Bool := decide (t = "+" ∨ t = "-")
/-- read_sum: the terms (none where no sum stands) and the index behind -/
def readS (names toks : List Str) : Nat → Nat → Int → Terms → Option Terms × Nat
  | 0, at_, _, _ => (none, at_)
  | n + 1, at_, f, acc => match termOf names (toks.getD at_ "") with
    | none => (none, at_)
    | some t => if toks.length ≤ at_ + 1 ∨ isOp (toks.getD (at_ + 1) "") = false ∨ acc.length + 1 = 5 then (some (acc ++ [(f, t)]), at_ + 1)
      else readS names toks n (at_ + 2) (signOf (toks.getD (at_ + 1) "")) (acc ++ [(f, t)])
def TermsAt (H : Hp) (l : Addr) (ts : Terms) : Prop := ∃ as : List Addr, H l = some (.lst (as.map V.ref)) ∧ Paired (fun (a : Addr) (t : Int × Tm) => H a = some (.tup [.int t.1, t.2.v])) as ts
theorem paired_snoc {α β : Type} {F : α → β → Prop} : ∀ {xs : List α} {ys : List β} {x : α} {y : β}, Paired F xs ys → F x y → Paired F (xs ++ [x]) (ys ++ [y])
  | _, _, _, _, .nil, h => .cons h .nil
  | _, _, _, _, .cons r t, h => .cons r (paired_snoc t h)
theorem TermsAt.nil {H : Hp} {l : Addr} : TermsAt (upd H l (.lst [])) l [] := ⟨[], upd_same, .nil⟩
theorem TermsAt.same {H H' : Hp} {l : Addr} {ts : Terms} (h : TermsAt H l ts) (s : Same H H') : TermsAt H' l ts := by
  obtain ⟨as, h1, h2⟩ := h
  exact ⟨as, s _ _ h1, Paired.mapP h2 fun a t e => s _ _ e⟩
theorem TermsAt.snoc {H : Hp} {l a : Addr} {as : List Addr} {ts : Terms} {f : Int} {t : Tm} (h1 : H l = some (.lst (as.map V.ref))) (h2 : Paired (fun (a : Addr) (t : Int × Tm) => H a = some (.tup [.int t.1, t.2.v])) as ts) (ha : H a = none) :
    TermsAt (upd (upd H a (.tup [.int f, t.v])) l (.lst (as.map V.ref ++ [.ref a]))) l (ts ++ [(f, t)]) := by
  have nal : a ≠ l := (ne_of_none h1 ha).symm
  refine ⟨as ++ [a], by rw [upd_same, List.map_append]; rfl, paired_snoc (Paired.mapP h2 fun b u e => ?_) ?_⟩
  · have nbl : b ≠ l := fun z => by rw [z, h1] at e; cases e
    rw [upd_ne nbl, upd_ne (ne_of_none e ha)]; exact e
  · rw [upd_ne nal, upd_same]
theorem digs_list : digs.cps.toList = [48, 49, 50, 51, 52, 53, 54, 55, 56, 57] := by decide +kernel
theorem num1 : ∀ a ∈ [48, 49, 50, 51, 52, 53, 54, 55, 56, 57], (PySem.intText? ⟨#[a]⟩).isSome = true := by decide +kernel
theorem num2 : ∀ a ∈ [48, 49, 50, 51, 52, 53, 54, 55, 56, 57], ∀ b ∈ [48, 49, 50, 51, 52, 53, 54, 55, 56, 57], (PySem.intText? ⟨#[a, b]⟩).isSome = true := by decide +kernel
theorem num3 : ∀ a ∈ [48, 49, 50, 51, 52, 53, 54, 55, 56, 57], ∀ b ∈ [48, 49, 50, 51, 52, 53, 54, 55, 56, 57], ∀ c ∈ [48, 49, 50, 51, 52, 53, 54, 55, 56, 57], (PySem.intText? ⟨#[a, b, c]⟩).isSome = true := by decide +kernel
theorem isNum_parts {t : Str} (h : isNum t = true) : t.cps.toList ≠ [] ∧ t.length ≤ 3 ∧ ∀ c ∈ t.cps.toList, c ∈ digs.cps.toList := by
  unfold isNum at h
  simp only [Bool.and_eq_true, Bool.not_eq_true', Bool.or_eq_false_iff, decide_eq_false_iff_not, List.all_eq_true, decide_eq_true_eq] at h
  obtain ⟨⟨⟨h1, h2⟩, h3⟩, _⟩ := h
  exact ⟨nil_of_ne h1, by omega, h3⟩
theorem isNum_int {t : Str} (h : isNum t = true) : PySem.intText? t = some (numVal t) := by
  obtain ⟨h1, h2, h3⟩ := isNum_parts h
  rw [digs_list] at h3
  have hs : (PySem.intText? t).isSome = true := by
    have e : t = ⟨t.cps.toList.toArray⟩ := str_eq rfl
    have hl : t.cps.toList.length ≤ 3 := by simpa [Str.length] using h2
    generalize t.cps.toList = l at *
    subst e
    match l, h1, hl, h3 with
    | [a], _, _, h3 => exact num1 a (h3 a (by simp))
    | [a, b], _, _, h3 => exact num2 a (h3 a (by simp)) b (h3 b (by simp))
    | [a, b, c], _, _, h3 => exact num3 a (h3 a (by simp)) b (h3 b (by simp)) c (h3 c (by simp))
    | _ :: _ :: _ :: _ :: _, _, hl, _ => exact absurd hl (by simp)
  obtain ⟨n, hn⟩ := Option.isSome_iff_exists.mp hs
  unfold numVal
  rw [hn]; rfl
theorem inV_ops {d : Str} : inV (.str d) [.str "+", .str "-"] = isOp d := by
  show inV (.str d) ((["+", "-"] : List Str).map V.str) = _
  rw [inV_str]
  unfold isOp
  simp
/-- how read_sum's answer lies at t -/
def RsAt (H H' : Hp) (t : Addr) (r : Option Terms × Nat) : Prop := match r with
  | (none, n) => H' t = some (.tup [.non, .int (n : Nat)])
  | (some ts, n) => ∃ l, H l = none ∧ H' t = some (.tup [.ref l, .int (n : Nat)]) ∧ TermsAt H' l ts

def sp_read_sum (K : PySem.W.Frag) : Sp := fun vs H Q _ => ∃ (p q : Addr) (toks names : List Str) (s : Nat), vs = [.ref p, .int (s : Nat), .ref q] ∧ SqL K H p (toks.map V.str) ∧ SqL K H q (names.map V.str) ∧ (∀ t ∈ toks, t.length ≤ 10000) ∧
  ∀ (t : Addr) (H' : Hp), Same H H' → H t = none → RsAt H H' t (readS names toks 5 s 1 []) → Q (.ref t) H'

theorem readS_le {names toks : List Str} (hn : ("" : Str) ∉ names) : ∀ (m at_ : Nat) (f : Int) (acc ts : Terms) (n : Nat), readS names toks m at_ f acc = (some ts, n) → n ≤ toks.length
  | 0, at_, f, acc, ts, n, h => by
    have h : (none, at_) = (some ts, n) := h
    cases h
  | m + 1, at_, f, acc, ts, n, h => by
    have hlt : at_ < toks.length := by
      by_cases q : at_ < toks.length
      · exact q
      · exfalso
        unfold readS at h
        have e : toks.getD at_ "" = "" := by rw [List.getD_eq_getElem?_getD, List.getElem?_eq_none (by omega)]; rfl
        have e2 : termOf names "" = none := by
          unfold termOf
          rw [if_neg hn, if_neg (by decide +kernel)]
        rw [e, e2] at h
        cases h
    unfold readS at h
    split at h
    · cases h
    · split at h
      · cases h
        omega
      · exact readS_le hn m _ _ _ ts n h
theorem lens_words {t a : Str} (h : a ∈ Txt.words t) : a.length ≤ t.length := PyProof.Rows.word_short h


def SumAt (K : PySem.W.Frag) (H : Hp) (x : Addr) (ts : Terms) (shown : Str) : Prop := ∃ dx l, H x = some (.ins (He.ga K "Sum") dx [("terms", .ref l), ("shown", .str shown)]) ∧ TermsAt H l ts
theorem put_shown {l : Addr} {z : Str} : putF "shown" (.str z) (putF "terms" (.ref l) []) = ([("terms", V.ref l), ("shown", .str z)] : List (Str × V)) := by
  have e : ¬ (("terms" : Str) = "shown") := by decide +kernel
  show (if ("terms" : Str) = "shown" then _ else (("terms" : Str), V.ref l) :: putF "shown" (.str z) []) = ([("terms", V.ref l), ("shown", .str z)] : List (Str × V))
  rw [if_neg e]
  rfl

def sp_Sum___init__ (K : PySem.W.Frag) : Sp := fun vs H Q E => ∃ (x dx q : Addr) (text : Str) (names : List Str), vs = [.ref x, .str text, .ref q] ∧ H x = some (.ins (He.ga K "Sum") dx []) ∧ SqL K H q (names.map V.str) ∧ ("" : Str) ∉ names ∧ text.length ≤ 10000 ∧
  (∀ n, ((readS names (Txt.words text) 5 0 1 []).1 = none ∨ n < (Txt.words text).length) → (readS names (Txt.words text) 5 0 1 []).2 = n → ∀ d H', Same H H' → H d = none → H' d = some (.xd [("at", .int (n : Nat))]) → E (.ref (He.ga K "BadSum")) (some d) H') ∧
  (∀ ts H', readS names (Txt.words text) 5 0 1 [] = (some ts, (Txt.words text).length) → Sx [x] H H' → SumAt K H' x ts (Txt.join " " (Txt.words text)) → Q .non H')

def abc : Str := "abcdefghijklmnopqrstuvwxyz"
def abc14 : Str := "bcdfjkmpquwxyz"
theorem abc_at : ∀ d : Nat, d < 26 → abc.cps.toList[d]? = some (97 + d) := by decide +kernel
theorem abc14_at : ∀ d : Nat, d < 14 → ∃ c, abc14.cps.toList[d]? = some c ∧ 97 ≤ c ∧ c ≤ 122 := by
  have h : ∀ d : Nat, d < 14 → (abc14.cps.toList[d]?).any (fun c => decide (97 ≤ c ∧ c ≤ 122)) = true := by decide +kernel
  intro d hd
  have := h d hd
  cases e : abc14.cps.toList[d]? with
  | none => rw [e] at this; cases this
  | some c => rw [e] at this; exact ⟨c, rfl, by simpa using this⟩
theorem atI_abc {d : Int} (h0 : 0 ≤ d) (h1 : d < 26) : atI abc.cps.toList d = some (97 + d.toNat) := by
  have := atI_of (abc_at d.toNat (by omega))
  rwa [show ((d.toNat : Nat) : Int) = d by omega] at this
/-- the i-th name, its first letter by f -/
def Wd (f i : Nat) (t : Str) : Prop := ∃ c r, t.cps.toList = c :: r ∧ abc14.cps.toList[(f + i) % 14]? = some c ∧ r.length ≤ 7 ∧ ∀ d ∈ r, 97 ≤ d ∧ d ≤ 122
def NamesOk (f : Nat) (names : List Str) : Prop := ∀ i t, names[i]? = some t → Wd f i t
theorem Wd.tk {f i : Nat} {t : Str} (h : Wd f i t) : Tk t := by
  obtain ⟨c, r, e, hc, _, hr⟩ := h
  refine ⟨by rw [e]; exact List.cons_ne_nil _ _, fun d hd => ?_⟩
  rw [e] at hd
  rcases List.mem_cons.mp hd with rfl | hd
  · obtain ⟨c', h1, h2⟩ := abc14_at ((f + i) % 14) (Nat.mod_lt _ (by decide))
    rw [hc] at h1; cases h1; omega
  · have := hr d hd; omega
theorem Wd.len {f i : Nat} {t : Str} (h : Wd f i t) : t.length ≤ 8 := by
  obtain ⟨c, r, e, _, hl, _⟩ := h
  have : t.length = t.cps.toList.length := by simp [Str.length]
  rw [this, e, List.length_cons]; omega
theorem NamesOk.mem {f : Nat} {names : List Str} (h : NamesOk f names) {t : Str} (ht : t ∈ names) : ∃ i, Wd f i t := by
  obtain ⟨i, hi, e⟩ := List.mem_iff_getElem.mp ht
  exact ⟨i, h i t (by rw [List.getElem?_eq_getElem hi, e])⟩
theorem NamesOk.tk {f : Nat} {names : List Str} (h : NamesOk f names) {t : Str} (ht : t ∈ names) : Tk t := by
  obtain ⟨i, hi⟩ := h.mem ht
  exact hi.tk
theorem NamesOk.len {f : Nat} {names : List Str} (h : NamesOk f names) {t : Str} (ht : t ∈ names) : t.length ≤ 8 := by
  obtain ⟨i, hi⟩ := h.mem ht
  exact hi.len
theorem NamesOk.nil (f : Nat) : NamesOk f [] := fun i t h => by simp at h
theorem NamesOk.snoc {f : Nat} {names : List Str} {t : Str} (h : NamesOk f names) (ht : Wd f names.length t) : NamesOk f (names ++ [t]) := fun i u hu => by
  rcases Nat.lt_trichotomy i names.length with q | q | q
  · rw [List.getElem?_append_left q] at hu; exact h i u hu
  · subst q
    rw [List.getElem?_append_right (Nat.le_refl _), Nat.sub_self] at hu
    cases hu
    exact ht
  · rw [List.getElem?_append_right (by omega)] at hu
    rw [List.getElem?_eq_none (by simp; omega)] at hu
    cases hu
/-- small letters, one a text -/
def Lets (ls : List Str) : Prop := ∀ t ∈ ls, ∃ c, t.cps.toList = [c] ∧ 97 ≤ c ∧ c ≤ 122
theorem lets_join : ∀ {ls : List Str}, Lets ls → (Str.join "" ls).cps.toList.length = ls.length ∧ ∀ c ∈ (Str.join "" ls).cps.toList, 97 ≤ c ∧ c ≤ 122
  | [], _ => ⟨rfl, fun c hc => by cases hc⟩
  | [x], h => by
    obtain ⟨c, e, hc⟩ := h x (List.mem_cons_self ..)
    show x.cps.toList.length = 1 ∧ ∀ c ∈ x.cps.toList, _
    rw [e]
    exact ⟨rfl, fun d hd => by simp at hd; subst hd; exact hc⟩
  | x :: y :: r, h => by
    obtain ⟨c, e, hc⟩ := h x (List.mem_cons_self ..)
    obtain ⟨h1, h2⟩ := lets_join (ls := y :: r) fun t ht => h t (List.mem_cons_of_mem _ ht)
    have e2 : (Str.join "" (x :: y :: r)).cps.toList = c :: (Str.join "" (y :: r)).cps.toList := by
      rw [join_cons2, Str.cps_append, Str.cps_append, Array.toList_append, Array.toList_append, e]
      rfl
    rw [e2]
    refine ⟨by rw [List.length_cons, h1]; rfl, fun d hd => ?_⟩
    rcases List.mem_cons.mp hd with rfl | hd
    · exact hc
    · exact h2 d hd
theorem lets_len {ls : List Str} (h : Lets ls) : ∀ t ∈ ls, t.length ≤ 1 := fun t ht => by
  obtain ⟨c, e, _⟩ := h t ht
  have : t.length = t.cps.toList.length := by simp [Str.length]
  rw [this, e]; exact Nat.le_refl _
theorem lets_snoc {ls : List Str} {c : Nat} (h : Lets ls) (h1 : 97 ≤ c) (h2 : c ≤ 122) : Lets (ls ++ [⟨#[c]⟩]) := fun t ht => by
  rcases List.mem_append.mp ht with ht | ht
  · exact h t ht
  · simp at ht; subst ht; exact ⟨c, rfl, h1, h2⟩
def sp_law_names (K : PySem.W.Frag) : Sp := fun vs H Q _ => ∃ (b : Addr) (many : Nat), vs = [.ref b, .int (many : Nat)] ∧ Bag H b ∧ many < 1000 ∧
  ∀ (p : Addr) (f : Nat) (names : List Str) (H' : Hp), Sx [b] H H' → Bag H' b → H p = none → H' p = some (.lst (names.map V.str)) → names.length = many → NamesOk f names → Q (.ref p) H'

theorem call_names {K : PySem.W.Frag} {W : List Addr} {H : Hp} {Q : VK} {E : XK} {b : Addr} {many : Nat} {m : Int} (hb : Bag H b) (hw : Wl W H) (hm : many < 1000) (e : m = (many : Nat)) (k : ∀ p f names H', H p = none → Ed [b] H H' → Bag H' b → Df W H' (.ref p) (.list (names.map PyData.str)) → names.length = many → NamesOk f names → Q (.ref p) H') : sp_law_names K [.ref b, .int m] H Q E := by
  subst e
  exact ⟨b, many, rfl, hb, hm, fun p f names H' s hb' hp h l ok => k p f names H' hp (Ed.sx s fun a z => by rw [List.mem_singleton.mp z]; exact hb'.alive) hb' (Df.ofStrs (hw.not hp) h) l ok⟩


def tmV (val : Str → Int) : Tm → Int
  | .num n => n
  | .nam s => val s
def sumV (val : Str → Int) (ts : Terms) : Int := (ts.map fun t => t.1 * tmV val t.2).sum
/-- the values of the names in ts lie in the dict kvs; factors are 1 and -1 -/
def ValsIn (kvs : List (Key × V)) (val : Str → Int) (ts : Terms) : Prop := ∀ t ∈ ts, (t.1 = 1 ∨ t.1 = -1) ∧ (∀ s, t.2 = .nam s → valV kvs (.inr s) = some (.int (val s)))
theorem paired_at {α β : Type} {F : α → β → Prop} : ∀ {xs : List α} {ys : List β} {i : Nat} {x : α}, Paired F xs ys → xs[i]? = some x → ∃ y, ys[i]? = some y ∧ F x y
  | _, _, _, _, .nil, e => by simp at e
  | _, _, 0, _, .cons (b := y) r _, e => by simp at e; subst e; exact ⟨y, rfl, r⟩
  | _, _, i + 1, _, .cons _ t, e => by
    simp at e
    obtain ⟨y, h1, h2⟩ := paired_at t e
    exact ⟨y, by simpa using h1, h2⟩

def sp_sum_of (K : PySem.W.Frag) : Sp := fun vs H Q _ => ∃ (p d : Addr) (ts : Terms) (kvs : List (Key × V)) (val : Str → Int), vs = [.ref p, .ref d] ∧ TermsAt H p ts ∧ H d = some (.dK kvs) ∧ ValsIn kvs val ts ∧ Q (.int (sumV val ts)) H

/-! ### what is written is read: sums, atoms, parts, conditions -/
def numT (n : Int) : Str := (toString n : String)
def Tm.tok : Tm → Str
  | .num n => numT n
  | .nam s => s
def opT (f : Int) : Str := if f = 1 then "+" else "-"
def restT (ts : Terms) : List Str := ts.flatMap fun t => [opT t.1, t.2.tok]
def sumT : Terms → List Str
  | [] => []
  | t :: r => t.2.tok :: restT r
/-- a term that is read as it is written -/
def TmOk (names : List Str) (t : Tm) : Prop := termOf names t.tok = some t
def TsOk (names : List Str) (ts : Terms) : Prop := ts ≠ [] ∧ ts.length ≤ 5 ∧ (∀ t ∈ ts, TmOk names t.2 ∧ (t.1 = 1 ∨ t.1 = -1)) ∧ ∀ t ∈ ts.head?, t.1 = 1
theorem getD_drop {toks xs : List Str} {n : Nat} (h : toks.drop n = xs) (k : Nat) : toks.getD (n + k) "" = xs.getD k "" := by
  subst h
  rw [List.getD_eq_getElem?_getD, List.getD_eq_getElem?_getD, List.getElem?_drop]
theorem drop_app {toks a b : List Str} {n : Nat} (h : toks.drop n = a ++ b) : toks.drop (n + a.length) = b := by
  rw [← List.drop_drop, h, List.drop_left]
theorem drop_le {toks a : List Str} {n : Nat} (h : toks.drop n = a) (h0 : a ≠ []) : n + a.length = toks.length := by
  have e : (toks.drop n).length = a.length := by rw [h]
  rw [List.length_drop] at e
  have : a.length ≠ 0 := fun z => h0 (List.length_eq_zero_iff.mp z)
  omega
theorem sign_op {f : Int} (h : f = 1 ∨ f = -1) : signOf (opT f) = f := by
  rcases h with rfl | rfl <;> decide +kernel
theorem isop_op {f : Int} : isOp (opT f) = true := by
  unfold opT
  split <;> decide +kernel
theorem readS_print {names toks : List Str} : ∀ (r : Terms) (t : Tm) (m n : Nat) (f : Int) (acc : Terms) (post : List Str), toks.drop n = t.tok :: restT r ++ post → TmOk names t → (∀ u ∈ r, TmOk names u.2 ∧ (u.1 = 1 ∨ u.1 = -1)) → acc.length + m = 5 → r.length + 1 ≤ m → isOp (post.headD "") = false →
    readS names toks m n f acc = (some (acc ++ (f, t) :: r), n + (1 + (restT r).length))
  | [], t, m, n, f, acc, post, h, h1, h2, h3, h4, h5 => by
    obtain ⟨m, rfl⟩ : ∃ j, m = j + 1 := ⟨m - 1, by simp at h4; omega⟩
    have e0 : toks.getD n "" = t.tok := getD_drop h 0
    have e1 : toks.getD (n + 1) "" = post.headD "" := by rw [getD_drop h 1]; cases post <;> rfl
    unfold readS
    rw [e0, h1]
    dsimp only
    rw [if_pos (.inr (.inl (by rw [e1]; exact h5)))]
    rfl
  | (g, u) :: r, t, m, n, f, acc, post, h, h1, h2, h3, h4, h5 => by
    obtain ⟨m, rfl⟩ : ∃ j, m = j + 1 := ⟨m - 1, by simp at h4; omega⟩
    have e0 : toks.getD n "" = t.tok := getD_drop h 0
    have e1 : toks.getD (n + 1) "" = opT g := getD_drop h 1
    obtain ⟨u1, u2⟩ := h2 _ (List.mem_cons_self ..)
    have hl := drop_le h (List.cons_ne_nil _ _)
    simp only [List.length_cons] at h4
    unfold readS
    rw [e0, h1]
    dsimp only
    rw [if_neg ?_, e1, sign_op u2, readS_print r u m (n + 2) g (acc ++ [(f, t)]) post (drop_app (a := [t.tok, opT g]) h) u1 (fun x hx => h2 x (List.mem_cons_of_mem _ hx)) (by simp; omega) (by omega) h5]
    · rw [List.append_assoc]
      show (some _, _) = (some _, n + (1 + (opT g :: u.tok :: restT r).length))
      simp only [List.length_cons]
      congr 1
      omega
    · rintro (z | z | z)
      · simp [restT] at hl; omega
      · rw [e1, isop_op] at z; cases z
      · omega
def spc : List Str → Str := Str.join " "
theorem spc_cons {x : Str} {r : List Str} (h : r ≠ []) : spc (x :: r) = x ++ " " ++ spc r := by
  cases r with
  | nil => exact absurd rfl h
  | cons y r => rfl
theorem app_assoc (a b c : Str) : a ++ b ++ c = a ++ (b ++ c) := str_eq (by simp [Str.cps_append])
theorem app_empty' (a : Str) : ("" : Str) ++ a = a := str_eq (by rw [Str.cps_append, show (("" : Str)).cps = #[] from rfl, Array.empty_append])
theorem join_txt (a : Str) (xs : List Str) : Txt.join a xs = Str.join a xs := StrLaws.glued_eq_join _ _
def numB (d : Nat) : Bool := let t := numT (d : Int); isNum t && decide (numVal t = (d : Int)) && decide (t.length ≤ 3) && (!t.cps.toList.isEmpty && t.cps.toList.all fun c => decide (48 ≤ c) && decide (c ≤ 57))
theorem numB_all : ∀ d : Nat, d < 1000 → numB d = true := by decide +kernel
theorem num_ok {d : Int} (h0 : 0 ≤ d) (h1 : d < 1000) : isNum (numT d) = true ∧ numVal (numT d) = d ∧ (numT d).length ≤ 3 ∧ (numT d).cps.toList ≠ [] ∧ ∀ c ∈ (numT d).cps.toList, 48 ≤ c ∧ c ≤ 57 := by
  have h := numB_all d.toNat (by omega)
  unfold numB at h
  rw [show ((d.toNat : Nat) : Int) = d by omega] at h
  simp only [Bool.and_eq_true, decide_eq_true_eq, Bool.not_eq_true', List.isEmpty_eq_false_iff, List.all_eq_true] at h
  exact ⟨h.1.1.1, h.1.1.2, h.1.2, h.2.1, h.2.2⟩
theorem num_tk {d : Int} (h0 : 0 ≤ d) (h1 : d < 1000) : Tk (numT d) := ⟨(num_ok h0 h1).2.2.2.1, fun c hc => by
  have := (num_ok h0 h1).2.2.2.2 c hc
  omega⟩
theorem num_term {names : List Str} {d : Int} (h0 : 0 ≤ d) (h1 : d < 1000) (hn : numT d ∉ names) : TmOk names (.num d) := by
  unfold TmOk termOf
  show (if numT d ∈ names then _ else _) = _
  obtain ⟨h2, h3, _⟩ := num_ok h0 h1
  show (if numT d ∈ names then some (Tm.nam (numT d)) else if isNum (numT d) = true then some (.num (numVal (numT d))) else none) = _
  rw [if_neg hn, if_pos h2, h3]
theorem tk_by {t : Str} (h : (!t.cps.toList.isEmpty && t.cps.toList.all fun c => decide (33 ≤ c) && decide (c ≤ 126)) = true) : Tk t := by
  simp only [Bool.and_eq_true, Bool.not_eq_true', List.isEmpty_eq_false_iff, List.all_eq_true, decide_eq_true_eq] at h
  exact ⟨h.1, h.2⟩


def tmD : Tm → PyData
  | .num n => .int n
  | .nam s => .str s
def termD (t : Int × Tm) : PyData := .tuple [.str (opT t.1), tmD t.2]
/-- a term as the laws draw it -/
def TmW (names : List Str) : Tm → Prop
  | .num n => 0 ≤ n ∧ n < 1000
  | .nam s => s ∈ names
def TsW (names : List Str) (many : Nat) (ts : Terms) : Prop := ts ≠ [] ∧ ts.length ≤ many ∧ (∀ t ∈ ts, TmW names t.2 ∧ (t.1 = 1 ∨ t.1 = -1)) ∧ ∀ t ∈ ts.head?, t.1 = 1

def sp_law_terms (K : PySem.W.Frag) : Sp := fun vs H Q _ => ∃ (W : List Addr) (b q : Addr) (names : List Str) (many : Nat), vs = [.ref b, .ref q, .int (many : Nat)] ∧ Bag H b ∧ b ∈ W ∧ Wl W H ∧ Df W H (.ref q) (.list (names.map PyData.str)) ∧ names.length ≤ 1000 ∧ 0 < many ∧ many ≤ 5 ∧
  ∀ p ts H', H p = none → Ed [b] H H' → Bag H' b → Df W H' (.ref p) (.list (ts.map termD)) → TsW names many ts → Q (.ref p) H'

def TmS : Tm → Prop
  | .num n => 0 ≤ n ∧ n < 1000
  | .nam s => s.length ≤ 8
theorem tok_len {t : Tm} (h : TmS t) : t.tok.length ≤ 8 := by
  cases t with
  | num n => exact Nat.le_trans (num_ok h.1 h.2).2.2.1 (by decide)
  | nam s => exact h
theorem g_strT {W : List Addr} {H : Hp} {v : V} {t : Tm} {Q : VK} (h : Df W H v (tmD t)) (hs : TmS t) (k : Q (.str t.tok) H) : dStr [v] H Q := by
  cases t with
  | num n =>
    have h : Df W H v (.int n) := h
    obtain rfl := h.isInt
    exact g_str_i (log2_1000 hs.1 (by have := hs.2; omega)) k
  | nam s =>
    have h : Df W H v (.str s) := h
    obtain rfl := h.isStr
    exact g_str_s k
theorem cells2 {W : List Addr} {H : Hp} {xs : List V} {s : Str} {d : PyData} (h : DfAll W H xs [.str s, d]) : ∃ v, xs = [.str s, v] ∧ Df W H v d := by
  cases h with
  | cons h1 r =>
    cases r with
    | cons h2 r2 =>
      cases r2
      rw [h1.isStr]
      exact ⟨_, rfl, h2⟩
/-- the i-th piece of a sum's text -/
def pcT (i : Nat) (t : Int × Tm) : Str := (if i = 0 then ("" : Str) else opT t.1 ++ " ") ++ t.2.tok
theorem op_len {f : Int} : (opT f).length = 1 := by
  unfold opT
  split <;> rfl
theorem join_pre (s a b : Str) : ∀ l : List Str, Str.join s ((a ++ b) :: l) = a ++ Str.join s (b :: l)
  | [] => rfl
  | x :: r => by rw [join_cons2, join_cons2]; simp only [app_assoc]
theorem join_rest : ∀ (r : Terms) (x : Str), Str.join " " (x :: r.map fun t => opT t.1 ++ " " ++ t.2.tok) = spc (x :: restT r)
  | [], x => rfl
  | t :: r, x => by
    rw [List.map_cons, join_cons2, join_pre, join_rest r]
    show _ = spc (x :: opT t.1 :: (t.2.tok :: restT r))
    rw [spc_cons (x := x) (r := opT t.1 :: t.2.tok :: restT r) (by simp), spc_cons (x := opT t.1) (r := t.2.tok :: restT r) (by simp)]
theorem join_sum (ts : Terms) : Str.join " " (ts.mapIdx pcT) = spc (sumT ts) := by
  cases ts with
  | nil => rfl
  | cons t r =>
    rw [List.mapIdx_cons]
    have e : r.mapIdx (fun i => pcT (i + 1)) = r.map fun t => opT t.1 ++ " " ++ t.2.tok := by
      refine List.ext_getElem (by simp) fun i h1 h2 => ?_
      rw [List.getElem_mapIdx, List.getElem_map]
      unfold pcT
      rw [if_neg (by omega)]
    rw [e]
    have e0 : pcT 0 t = t.2.tok := app_empty' _
    rw [e0, join_rest]
    rfl
theorem mapIdx_take {α β : Type} {l : List α} {f : Nat → α → β} {i : Nat} {x : α} (h : l[i]? = some x) : (l.take (i + 1)).mapIdx f = (l.take i).mapIdx f ++ [f i x] := by
  have hi : i < l.length := (List.getElem?_eq_some_iff.mp h).1
  rw [List.take_succ, h]
  show (l.take i ++ [x]).mapIdx f = _
  rw [List.mapIdx_concat, List.length_take, Nat.min_eq_left (by omega)]

def sp_law_sum_text (K : PySem.W.Frag) : Sp := fun vs H Q _ => ∃ (W : List Addr) (p : Addr) (ts : Terms), vs = [.ref p] ∧ Df W H (.ref p) (.list (ts.map termD)) ∧ Wl W H ∧ ts.length ≤ 5 ∧ (∀ t ∈ ts, TmS t.2) ∧ ∀ H', Ed [] H H' → Q (.str (spc (sumT ts))) H'
def sp_law_value (K : PySem.W.Frag) : Sp := fun vs H Q _ => ∃ (W : List Addr) (p d : Addr) (ts : Terms) (kvs : List (Key × V)) (val : Str → Int), vs = [.ref p, .ref d] ∧ Df W H (.ref p) (.list (ts.map termD)) ∧ H d = some (.dK kvs) ∧ ValsIn kvs val ts ∧ Q (.int (sumV val ts)) H
def sp_Sum___str__ (K : PySem.W.Frag) : Sp := fun vs H Q _ => ∃ (x : Addr) (ts : Terms) (s : Str), vs = [.ref x] ∧ SumAt K H x ts s ∧ Q (.str s) H
def sp_Sum___call__ (K : PySem.W.Frag) : Sp := fun vs H Q _ => ∃ (x d : Addr) (ts : Terms) (s : Str) (kvs : List (Key × V)) (val : Str → Int), vs = [.ref x, .ref d] ∧ SumAt K H x ts s ∧ H d = some (.dK kvs) ∧ ValsIn kvs val ts ∧ Q (.int (sumV val ts)) H
def sp_law_integer (K : PySem.W.Frag) : Sp := fun vs H Q _ => ∃ i : Int, vs = [.int i] ∧ Q (.bl true) H
def sp_Sum_mentions (K : PySem.W.Frag) : Sp := fun vs H Q _ => ∃ (x : Addr) (ts : Terms) (s : Str), vs = [.ref x] ∧ SumAt K H x ts s ∧ ts.length < 64 ∧ ∀ (xs : List Str) (p : Addr) (H' : Hp), Ed [] H H' → H p = none → PyProof.Rows.sortedS xs = true → xs.Nodup → (∀ k, k ∈ xs ↔ ∃ t ∈ ts, t.2 = .nam k) → H' p = some (.lst (xs.map V.str)) → Q (.ref p) H'

theorem cl_lenD {X : Cx} : CallR X (.builtin "len") (fun xs H Q => ∃ a kvs, xs = [V.ref a] ∧ H a = some (.dK kvs) ∧ Q (.int kvs.length) H) := call_lenD
theorem cl_sorted {X : Cx} (K : PySem.W.Frag) (h : X.K = K := by rfl) : CallR X (.builtin "sorted") (rSortedS K) := h ▸ cr_sortedS
theorem repl_one {z : List Nat} : ∀ l : List Nat, StrLaws.replL [32] z l = l.flatMap fun c => if c = 32 then z else [c]
  | [] => StrLaws.replL_nil
  | c :: r => by
    rw [List.flatMap_cons, ← repl_one r]
    by_cases h : c = 32
    · rw [if_pos h, StrLaws.replL_hit (by simp) (by rw [h]; rfl)]
      rfl
    · rw [if_neg h, StrLaws.replL_miss (by simp [h])]
      rfl
theorem flat_tok {z : List Nat} {l : List Nat} (h : ∀ c ∈ l, 33 ≤ c ∧ c ≤ 126) : (l.flatMap fun c => if c = 32 then z else [c]) = l := by
  induction l with
  | nil => rfl
  | cons c r ih =>
    have hc := h c (List.mem_cons_self ..)
    rw [List.flatMap_cons, ih fun d hd => h d (List.mem_cons_of_mem _ hd), if_neg (by omega)]
    rfl
theorem repl_spc {b : Str} : ∀ {ts : List Str}, (∀ t ∈ ts, Tk t) → Txt.replace (spc ts) " " b = Str.join b ts := fun {ts} h => by
  refine str_eq ?_
  rw [StrLaws.replace_list (by decide +kernel), show ((" " : Str)).cps.toList = [32] from rfl, repl_one]
  induction ts with
  | nil => rfl
  | cons x r ih =>
    cases r with
    | nil => exact flat_tok (h x (List.mem_cons_self ..)).2
    | cons y r =>
      rw [spc_cons (by simp), join_cons2, Str.cps_append, Str.cps_append, Str.cps_append, Str.cps_append]
      simp only [Array.toList_append, List.flatMap_append]
      rw [ih fun t ht => h t (List.mem_cons_of_mem _ ht), flat_tok (h x (List.mem_cons_self ..)).2, show ((" " : Str)).cps.toList = [32] from rfl]
      simp

theorem bl_b : ∀ b ∈ ([" ", "  ", "   "] : List Str), Bl b ∧ b.cps.toList ≠ [] ∧ b.length ≤ 3 := by unfold Bl; decide +kernel
theorem bl_w : ∀ b ∈ (["", " ", "  "] : List Str), Bl b ∧ b.length ≤ 2 := by unfold Bl; decide +kernel
theorem words_wide {ts : List Str} {b c wd : Str} (h : ∀ t ∈ ts, Tk t) (hl : ∀ t ∈ ts, t.length ≤ 8) (hb : b ∈ ([" ", "  ", "   "] : List Str)) (hw : wd ∈ (["", " ", "  "] : List Str)) (hc : c = spc ts ∨ c = Txt.replace (spc ts) " " b) : Txt.words (wd ++ c ++ wd) = ts ∧ c.length ≤ ts.length * 11 ∧ wd.length ≤ 2 := by
  obtain ⟨w1, w2⟩ := bl_w wd hw
  have key : ∀ s ∈ ([" ", "  ", "   "] : List Str), Txt.words (wd ++ Str.join s ts ++ wd) = ts ∧ (Str.join s ts).length ≤ ts.length * 11 := fun s hs => by
    obtain ⟨s1, s2, s3⟩ := bl_b s hs
    refine ⟨?_, Nat.le_trans (join_len_le s 8 ts hl) (Nat.mul_le_mul_left _ (by omega))⟩
    rw [app_assoc]
    exact words_join w1 s1 s2 w1 h
  rcases hc with rfl | rfl
  · exact ⟨(key " " (by simp)).1, (key " " (by simp)).2, w2⟩
  · rw [repl_spc h]
    exact ⟨(key b hb).1, (key b hb).2, w2⟩
/-! ### names -/
def NmK (x : Str) : Prop := Tk x ∧ x.length ≤ 8 ∧ ∀ c ∈ x.cps.toList, 97 ≤ c ∧ c ≤ 122
theorem abc14_rng : ∀ c ∈ abc14.cps.toList, 97 ≤ c ∧ c ≤ 122 ∧ c ≠ 103 ∧ c ≠ 115 := by decide +kernel
theorem abc14_nd : ∀ i < 14, ∀ j < 14, abc14.cps.toList[i]? = abc14.cps.toList[j]? → i = j := by decide +kernel
theorem nmK_wd {f i : Nat} {x : Str} (h : Wd f i x) : NmK x := by
  refine ⟨h.tk, h.len, fun c hc => ?_⟩
  obtain ⟨c0, r, e, h1, h2, h3⟩ := h
  rw [e] at hc
  rcases List.mem_cons.mp hc with rfl | hc
  · have := abc14_rng _ (List.mem_of_getElem? h1); omega
  · exact h3 c hc
theorem nmK_more : ∀ x ∈ (["given", "sent", "got"] : List Str), NmK x := by
  have key : ∀ x ∈ (["given", "sent", "got"] : List Str), (!x.cps.toList.isEmpty && x.cps.toList.all fun c => decide (97 ≤ c) && decide (c ≤ 122)) = true ∧ x.length ≤ 8 := by decide +kernel
  intro x hx
  obtain ⟨h1, h2⟩ := key x hx
  simp only [Bool.and_eq_true, Bool.not_eq_true', List.all_eq_true, decide_eq_true_eq] at h1
  refine ⟨⟨fun z => by rw [z] at h1; exact absurd h1.1 (by simp), fun c hc => by have := h1.2 c hc; omega⟩, h2, fun c hc => h1.2 c hc⟩
theorem nmK_sk {x : Str} (h : NmK x) : PyData.strOk x = true := sok_asc fun c hc => by have := h.2.2 c hc; omega
theorem nmK_num {x : Str} {d : Int} (h : NmK x) (h0 : 0 ≤ d) (h1 : d < 1000) : numT d ≠ x := fun z => by
  cases e : x.cps.toList with
  | nil => exact h.1.1 e
  | cons c r =>
    have h2 := (num_ok h0 h1).2.2.2.2 c (by rw [z, e]; exact List.mem_cons_self ..)
    have h3 := h.2.2 c (by rw [e]; exact List.mem_cons_self ..)
    omega
theorem names_nd {f : Nat} {names : List Str} (h : NamesOk f names) (hl : names.length ≤ 14) : names.Nodup := by
  refine List.pairwise_iff_getElem.mpr fun i j hi hj hij e0 => ?_
  obtain ⟨y, hy⟩ : ∃ y, names[j]? = some y := ⟨_, List.getElem?_eq_getElem hj⟩
  have e : names[i]? = some y := by rw [List.getElem?_eq_getElem hi, e0, ← hy, List.getElem?_eq_getElem hj]
  obtain ⟨c, r, e1, h1, _⟩ := h i y e
  obtain ⟨c', r', e2, h2, _⟩ := h j y hy
  rw [e1] at e2
  obtain ⟨rfl, _⟩ := List.cons.inj e2
  have := abc14_nd _ (Nat.mod_lt _ (by decide)) _ (Nat.mod_lt _ (by decide)) (h1.trans h2.symm)
  omega
theorem names_more {f : Nat} {names : List Str} (h : NamesOk f names) (hl : names.length ≤ 14) : (names ++ (["given", "sent", "got"] : List Str)).Nodup := by
  rw [List.nodup_append]
  refine ⟨names_nd h hl, by decide +kernel, fun x hx y hy => ?_⟩
  rintro rfl
  obtain ⟨i, hi⟩ := h.mem hx
  obtain ⟨c, r, e, h1, _⟩ := hi
  have key : ∀ y ∈ (["given", "sent", "got"] : List Str), ∀ c ∈ y.cps.toList.head?, c = 103 ∨ c = 115 := by decide +kernel
  have h3 := key x hy c (by rw [e]; rfl)
  have h4 := abc14_rng _ (List.mem_of_getElem? h1)
  omega
theorem op_tk {f : Int} : Tk (opT f) ∧ (opT f).length ≤ 8 := by
  unfold opT
  split
  · exact ⟨tk_by (by decide +kernel), by decide +kernel⟩
  · exact ⟨tk_by (by decide +kernel), by decide +kernel⟩

theorem tmK_ok {names : List Str} (hn : ∀ x ∈ names, NmK x) {t : Tm} (h : TmW names t) : TmOk names t ∧ Tk t.tok ∧ t.tok.length ≤ 8 ∧ TmS t := by
  cases t with
  | num d =>
    obtain ⟨h0, h1⟩ := h
    exact ⟨num_term h0 h1 fun z => nmK_num (hn _ z) h0 h1 rfl, num_tk h0 h1, Nat.le_trans (num_ok h0 h1).2.2.1 (by decide), h0, h1⟩
  | nam s =>
    have hs : s ∈ names := h
    have := hn s hs
    refine ⟨?_, this.1, this.2.1, this.2.1⟩
    unfold TmOk termOf
    rw [if_pos (show Tm.tok (.nam s) ∈ names from hs)]
    rfl
theorem restT_len : ∀ r : Terms, (restT r).length = 2 * r.length
  | [] => rfl
  | t :: r => by
    have := restT_len r
    show (([opT t.1, t.2.tok] : List Str) ++ restT r).length = _
    rw [List.length_append, this, List.length_cons]
    simp only [List.length_cons, List.length_nil]
    omega
theorem tsK_ok {names : List Str} (hn : ∀ x ∈ names, NmK x) {ts : Terms} (h : TsW names 5 ts) : TsOk names ts ∧ (∀ t ∈ sumT ts, Tk t) ∧ (∀ t ∈ sumT ts, t.length ≤ 8) ∧ (sumT ts).length ≤ 9 ∧ (∀ t ∈ ts, TmS t.2) := by
  obtain ⟨h0, h1, h2, h3⟩ := h
  have ok : ∀ t ∈ ts, TmOk names t.2 ∧ Tk t.2.tok ∧ t.2.tok.length ≤ 8 ∧ TmS t.2 := fun t ht => tmK_ok hn (h2 t ht).1
  have key : ∀ t ∈ sumT ts, Tk t ∧ t.length ≤ 8 := by
    cases ts with
    | nil => exact absurd rfl h0
    | cons t r =>
      have k1 := ok t (List.mem_cons_self ..)
      intro x hx
      have hx : x ∈ t.2.tok :: restT r := hx
      rcases List.mem_cons.mp hx with rfl | hx
      · exact ⟨k1.2.1, k1.2.2.1⟩
      · obtain ⟨u, hu, hx⟩ := List.mem_flatMap.mp hx
        simp only [List.mem_cons, List.not_mem_nil, or_false] at hx
        have k2 := ok u (List.mem_cons_of_mem _ hu)
        rcases hx with rfl | rfl
        · exact op_tk
        · exact ⟨k2.2.1, k2.2.2.1⟩
  refine ⟨⟨h0, h1, fun t ht => ⟨(ok t ht).1, (h2 t ht).2⟩, h3⟩, fun t ht => (key t ht).1, fun t ht => (key t ht).2, ?_, fun t ht => (ok t ht).2.2.2⟩
  cases ts with
  | nil => exact absurd rfl h0
  | cons t r =>
    show (t.2.tok :: restT r).length ≤ 9
    rw [List.length_cons, restT_len]
    rw [List.length_cons] at h1
    omega
/-! ### sorted lists of texts -/
open PyProof.Rows (sortedS risingS)
theorem ltC_anti : ∀ a b : List Nat, PySem.Spec.ltCps a b = false → PySem.Spec.ltCps b a = false → a = b
  | [], [], _, _ => rfl
  | [], _ :: _, h, _ => by simp [PySem.Spec.ltCps] at h
  | _ :: _, [], _, h => by simp [PySem.Spec.ltCps] at h
  | x :: a, y :: b, h1, h2 => by
    simp only [PySem.Spec.ltCps, Bool.or_eq_false_iff, Bool.and_eq_false_iff, decide_eq_false_iff_not, beq_eq_false_iff_ne] at h1 h2
    have e : x = y := by omega
    subst e
    rw [ltC_anti a b (h1.2.resolve_left (fun z => z rfl)) (h2.2.resolve_left (fun z => z rfl))]
theorem ltC_tr : ∀ a b c : List Nat, PySem.Spec.ltCps b a = false → PySem.Spec.ltCps c b = false → PySem.Spec.ltCps c a = false
  | [], _, [], _, _ => rfl
  | [], _, _ :: _, _, _ => by simp [PySem.Spec.ltCps]
  | _ :: _, [], _, h, _ => by simp [PySem.Spec.ltCps] at h
  | _ :: _, _ :: _, [], _, h => by simp [PySem.Spec.ltCps] at h
  | x :: a, y :: b, z :: c, h1, h2 => by
    simp only [PySem.Spec.ltCps, Bool.or_eq_false_iff, Bool.and_eq_false_iff, decide_eq_false_iff_not, beq_eq_false_iff_ne] at h1 h2 ⊢
    refine ⟨by omega, ?_⟩
    by_cases e : z = x
    · right
      have e1 : y = x := by omega
      have e2 : z = y := by omega
      exact ltC_tr a b c (h1.2.resolve_left fun k => k e1) (h2.2.resolve_left fun k => k e2)
    · exact .inl e
def leS (a b : Str) : Prop := PySem.Spec.ltCps b.cps.toList a.cps.toList = false
theorem rising_pw : ∀ (l : List Str) (p : Str), risingS p l = true → (p :: l).Pairwise leS
  | [], p, _ => List.pairwise_singleton _ _
  | x :: r, p, h => by
    have h : (!PySem.Spec.ltCps x.cps.toList p.cps.toList && risingS x r) = true := h
    rw [Bool.and_eq_true, Bool.not_eq_true'] at h
    have ih := rising_pw r x h.2
    refine List.pairwise_cons.mpr ⟨fun y hy => ?_, ih⟩
    rcases List.mem_cons.mp hy with rfl | hy
    · exact h.1
    · exact ltC_tr _ _ _ h.1 (List.rel_of_pairwise_cons ih hy)
theorem sorted_pw {l : List Str} (h : sortedS l = true) : l.Pairwise leS := by
  cases l with
  | nil => exact List.Pairwise.nil
  | cons x r => exact rising_pw r x h
theorem pw_unique : ∀ {l m : List Str}, l.Pairwise leS → m.Pairwise leS → l.Nodup → m.Nodup → (∀ x, x ∈ l ↔ x ∈ m) → l = m
  | [], [], _, _, _, _, _ => rfl
  | [], y :: m, _, _, _, _, h => absurd ((h y).mpr (List.mem_cons_self ..)) List.not_mem_nil
  | x :: l, [], _, _, _, _, h => absurd ((h x).mp (List.mem_cons_self ..)) List.not_mem_nil
  | x :: l, y :: m, p1, p2, n1, n2, h => by
    obtain ⟨a1, b1⟩ := List.nodup_cons.mp n1
    obtain ⟨a2, b2⟩ := List.nodup_cons.mp n2
    have e : x = y := by
      rcases List.mem_cons.mp ((h x).mp (List.mem_cons_self ..)) with e | hx
      · exact e
      · rcases List.mem_cons.mp ((h y).mpr (List.mem_cons_self ..)) with e | hy
        · exact e.symm
        · exact str_eq (ltC_anti _ _ (List.rel_of_pairwise_cons p2 hx) (List.rel_of_pairwise_cons p1 hy))
    subst e
    rw [pw_unique (List.pairwise_cons.mp p1).2 (List.pairwise_cons.mp p2).2 b1 b2 fun z => ?_]
    constructor
    · intro hz
      rcases List.mem_cons.mp ((h z).mp (List.mem_cons_of_mem _ hz)) with rfl | hz'
      · exact absurd hz a1
      · exact hz'
    · intro hz
      rcases List.mem_cons.mp ((h z).mpr (List.mem_cons_of_mem _ hz)) with rfl | hz'
      · exact absurd hz a2
      · exact hz'
def inTs (ts : Terms) (n : Str) : Bool := ts.any fun t => match t.2 with
  | .nam k => decide (n = k)
  | .num _ => false
theorem inTs_iff {ts : Terms} {n : Str} : inTs ts n = true ↔ ∃ t ∈ ts, t.2 = Tm.nam n := by
  unfold inTs
  rw [List.any_eq_true]
  constructor
  · rintro ⟨t, ht, h⟩
    cases e : t.2 with
    | num k => rw [e] at h; cases h
    | nam k =>
      rw [e] at h
      have h : n = k := of_decide_eq_true h
      exact ⟨t, ht, by rw [e, h]⟩
  · rintro ⟨t, ht, h⟩
    exact ⟨t, ht, by rw [h]; exact decide_eq_true rfl⟩
theorem inV_ts {ts : Terms} {n : Str} : inV (.str n) (ts.map fun t => t.2.v) = inTs ts n := by
  unfold inV inTs
  rw [List.any_map]
  refine congrArg (fun f => ts.any f) (funext fun t => ?_)
  show eqV t.2.v (.str n) = _
  cases t.2 with
  | num k => rfl
  | nam k => show (k == n) = decide (n = k); rw [Bool.eq_iff_iff, beq_iff_eq, decide_eq_true_eq]; exact eq_comm
theorem due_eq {names ys xs : List Str} {ts : Terms} (hp : ys.Perm names) (hs : sortedS ys = true) (nd : names.Nodup) (hx : sortedS xs = true) (xd : xs.Nodup) (hm : ∀ k, k ∈ xs ↔ ∃ t ∈ ts, t.2 = Tm.nam k) (hn : ∀ t ∈ ts, ∀ k, t.2 = Tm.nam k → k ∈ names) : xs = ys.filter (inTs ts) := by
  refine pw_unique (sorted_pw hx) ((sorted_pw hs).sublist List.filter_sublist) xd ((hp.nodup_iff.mpr nd).sublist List.filter_sublist) fun z => ?_
  rw [hm z, List.mem_filter, inTs_iff, hp.mem_iff]
  exact ⟨fun ⟨t, h1, h2⟩ => ⟨hn t h1 z h2, t, h1, h2⟩, fun h => h.2⟩
theorem inr_ne {a b : Str} (h : a ≠ b) : ¬ (Sum.inr a : Key) = Sum.inr b := fun z => h (Sum.inr.inj z)
theorem putK_len {kvs : List (Key × V)} {s : Str} {v : V} (h : valV kvs (.inr s) = none) : (putK kvs (.inr s) v).length = kvs.length + 1 := by
  unfold putK
  rw [if_neg (by rw [valV_any, h]; exact Bool.false_ne_true), List.length_append]
  rfl
theorem putK_other {kvs : List (Key × V)} {s t : Str} {v : V} (h : ¬ t = s) : valV (putK kvs (.inr s) v) (.inr t) = valV kvs (.inr t) := by
  rw [valV_put, if_neg (inr_ne h)]
theorem readS_sum {names : List Str} {ts : Terms} (h : TsOk names ts) : readS names (sumT ts) 5 0 1 [] = (some ts, (sumT ts).length) := by
  obtain ⟨h0, h1, h2, h3⟩ := h
  cases ts with
  | nil => exact absurd rfl h0
  | cons t r =>
    obtain ⟨f, t⟩ := t
    have hf : f = 1 := h3 (f, t) rfl
    subst hf
    have := readS_print (names := names) (toks := sumT ((1, t) :: r)) r t 5 0 1 [] [] (by rw [List.append_nil]; rfl) (h2 _ (List.mem_cons_self ..)).1 (fun u hu => h2 u (List.mem_cons_of_mem _ hu)) rfl h1 (by decide +kernel)
    rw [this]
    show (some ((1, t) :: r), 0 + (1 + (restT r).length)) = (some ((1, t) :: r), (t.tok :: restT r).length)
    rw [List.length_cons]
    congr 1
    omega
theorem SumAt.mv {K : PySem.W.Frag} {U : List Addr} {H H' : Hp} {x : Addr} {ts : Terms} {sh : Str} (h : SumAt K H x ts sh) (e : Ed U H H') (hu : ∀ a ∈ U, (∀ C dx fs, H a ≠ some (.ins C dx fs)) ∧ (∀ as : List Addr, H a ≠ some (.lst (as.map V.ref))) ∧ ∀ xs, H a ≠ some (.tup xs)) : SumAt K H' x ts sh := by
  obtain ⟨dx, l, h1, as, h2, h3⟩ := h
  exact ⟨dx, l, e.get (fun z => (hu _ z).1 _ _ _ h1) h1, as, e.get (fun z => (hu _ z).2.1 _ h2) h2, Paired.mapP h3 fun a t ha => e.get (fun z => (hu _ z).2.2 _ ha) ha⟩
theorem SumAt.ed {K : PySem.W.Frag} {H H' : Hp} {x : Addr} {ts : Terms} {sh : Str} (h : SumAt K H x ts sh) (e : Ed [] H H') : SumAt K H' x ts sh := h.mv e fun a z => absurd z List.not_mem_nil
theorem SumAt.edB {K : PySem.W.Frag} {b : Addr} {H H' : Hp} {x : Addr} {ts : Terms} {sh : Str} (h : SumAt K H x ts sh) (e : Ed [b] H H') (hb : Bag H b) : SumAt K H' x ts sh := h.mv e fun a z => by
  obtain ⟨i, j, hb⟩ := hb
  rw [List.mem_singleton.mp z, hb]
  refine ⟨fun _ _ _ q => (nomatch q), fun as q => ?_, fun _ q => (nomatch q)⟩
  cases as with
  | nil => cases q
  | cons p r => cases q
theorem SumAt.edL {K : PySem.W.Frag} {q : Addr} {names : List Str} {H H' : Hp} {x : Addr} {ts : Terms} {sh : Str} (h : SumAt K H x ts sh) (e : Ed [q] H H') (hq : H q = some (.lst (names.map V.str))) (h0 : names ≠ []) : SumAt K H' x ts sh := h.mv e fun a z => by
  rw [List.mem_singleton.mp z, hq]
  refine ⟨fun _ _ _ q => (nomatch q), fun as q => ?_, fun _ q => (nomatch q)⟩
  cases names with
  | nil => exact h0 rfl
  | cons n r =>
    cases as with
    | nil => cases q
    | cons p r => cases q
theorem sum_made {K : PySem.W.Frag} {H H' H2 : Hp} {x : Addr} {ts : Terms} {sh : Str} (hx : H x = none) (e : Ed [] H H') (s : Sx [x] H' H2) (h : SumAt K H2 x ts sh) : Ed [] H H2 := by
  obtain ⟨dx, l, h1, _⟩ := h
  exact e.tr (Ed.sx s fun a z => by rw [List.mem_singleton.mp z, h1]; exact fun q => nomatch q) (edv1 (.inr hx))
theorem tm_cell {W : List Addr} {H : Hp} {v : V} {t : Tm} (h : Df W H v (tmD t)) : v = t.v := by
  cases t with
  | num n => exact Df.isInt (s := n) h
  | nam s => exact Df.isStr (s := s) h
theorem tms_cells {W : List Addr} {H : Hp} : ∀ {ts : Terms} {xs : List V}, DfAll W H xs (ts.map fun t => tmD t.2) → xs = ts.map fun t => t.2.v
  | [], xs, h => by cases h; rfl
  | t :: r, xs, h => by
    cases h with
    | cons h1 h2 => rw [tm_cell h1, tms_cells h2]; rfl
theorem df_tms {W : List Addr} {H : Hp} {p : Addr} {ts : Terms} (h : Df W H (.ref p) (.list (ts.map fun t => tmD t.2))) : H p = some (.lst (ts.map fun t => t.2.v)) := by
  obtain ⟨xs, _, h1, h2⟩ := h.cells
  rw [h1, tms_cells h2]
theorem flat_tms (ts : Terms) : (ts.map fun t => t.2.v).all flatV = true := by
  rw [List.all_eq_true]
  intro v hv
  obtain ⟨t, _, rfl⟩ := List.mem_map.mp hv
  cases t.2 <;> rfl
def ts79 : Terms := [(1, .num 7), (-1, .num 9)]
theorem g_neSelf {K : PySem.W.Frag} {W : List Addr} {H : Hp} {Q : VK} {x y : V} {d : PyData} {n : Nat} (h1 : Df W H x d) (h2 : Df W H y d) (s : Sd n d) (hn : n ≤ 60) (k : Q (.bl false) H) : dNe K x y H Q :=
  g_ned h1 h2 (s.sh hn) (s.sh hn) (by rw [PySem.SeqAt.eqv_refl d s.1]; exact k)
def kv5 : List (Key × V) := [(.inr "b", .int 5)]
theorem w79 : Txt.words "7 - 9" = sumT ts79 := by decide +kernel
theorem ok79 : TsOk ["b"] ts79 := ⟨by decide, by decide, fun t ht => by
  have ht : t ∈ ([(1, .num 7), (-1, .num 9)] : Terms) := ht
  simp only [List.mem_cons, List.not_mem_nil, or_false] at ht
  rcases ht with rfl | rfl
  · exact ⟨num_term (by decide) (by decide) (by decide +kernel), .inl rfl⟩
  · exact ⟨num_term (by decide) (by decide) (by decide +kernel), .inr rfl⟩, fun t ht => by cases ht; rfl⟩
theorem vals79 {kvs : List (Key × V)} {val : Str → Int} : ValsIn kvs val ts79 := fun t ht => by
  have ht : t ∈ ([(1, .num 7), (-1, .num 9)] : Terms) := ht
  simp only [List.mem_cons, List.not_mem_nil, or_false] at ht
  rcases ht with rfl | rfl
  · exact ⟨.inl rfl, fun s z => by cases z⟩
  · exact ⟨.inr rfl, fun s z => by cases z⟩
theorem sum79 {val : Str → Int} : sumV val ts79 = -2 := rfl
theorem no79 {k : Str} : ¬ ∃ t ∈ ts79, t.2 = Tm.nam k := by
  rintro ⟨t, ht, z⟩
  have ht : t ∈ ([(1, .num 7), (-1, .num 9)] : Terms) := ht
  simp only [List.mem_cons, List.not_mem_nil, or_false] at ht
  rcases ht with rfl | rfl <;> cases z


/-- what _law_of gives back, told of the value itself -/
theorem ofr_law_of {P : Program} {w : World} {K : PySem.W.Frag} {mg : Str → Option Value} {base : Heap} {f : Addr} {fd : FuncData} (F : FnP K "_law_of" "_law_of" s_law_of f fd) (hb : Binds K fd ["_law_bag", "_law_some"] []) (T : Txt K mg) (C__law_take : Cal P w K mg base 1 "_law_take" ["_law_bag", "_law_many"] (sp_law_take K)) : OfRun P w K mg base 2 f := by
  refine of_run F sc_law_of rfl hb (fun _ _ => rfl) rfl (by decide) (by decide) (fun cdv A outer s H E b a o xs Q hr hB ha hne h0 h1 k => ?_)
  have nd := sc_law_of.nd
  have tk := takes_of (E := E) (X := (cxOf (L2.CX P w) P w K mg base ["_law_bag", "_law_some"] "_law_of" (defScope s_law_of) f cdv A outer s H E)) rfl rfl rfl rfl
  refine ⟨_, (q_call C__law_take tk (hr.mono (by decide)) (pa_cons (pv 0) (pa_cons (pe_callB (cl_len K) (by rfl) T.n_len bt_len (pa_cons (pv 1) pa_nil)) pa_nil))), ?_⟩
  have hS : SqL K H a xs := .inl (.inr ⟨o, ha⟩)
  refine ⟨_, rfl, _, rfl, ?_⟩
  walk_at "go"
  exact ⟨b, _, rfl, hB, by omega, by omega, k⟩

def sp_law_values (K : PySem.W.Frag) : Sp := fun vs H Q _ => ∃ (W : List Addr) (b q : Addr) (names : List Str), vs = [.ref b, .ref q] ∧ Bag H b ∧ b ∈ W ∧ Wl W H ∧ Df W H (.ref q) (.list (names.map PyData.str)) ∧ names.length ≤ 1000 ∧ names.Nodup ∧
  ∀ (p : Addr) (kvs : List (Key × V)) (val : Str → Int) (H' : Hp), H p = none → Ed [b] H H' → Bag H' b → H' p = some (.dK kvs) → kvs.length = names.length → (∀ s ∈ names, valV kvs (.inr s) = some (.int (val s))) → Q (.ref p) H'
def sp_law (K : PySem.W.Frag) : Sp := fun vs H Q _ => ∃ (a : Addr) (ns : List Int), vs = [.ref a] ∧ SqL K H a (ns.map V.int) ∧ ns.length ≤ 63 ∧ (∀ z ∈ ns, Builtin.Int.intBits z ≤ 1048576) ∧ ∀ H', Q (.bl true) H'
section
variable {P : Program} {w : World} {K : PySem.W.Frag} {mg : Str → Option Value} {base : Heap}
theorem ok_BadSum___init__ {f : Addr} {fd : FuncData} (F : FnP K "__init__" "BadSum.__init__" s_BadSum___init__ f fd) (o : OexG K (He.ga K "BadSum")) (no : PySem.W.findIn K (.ref (He.ga K "BadSum")) "at" = some none) : FnOk P w K mg base (L2.CX P w) 1 f fd ["self", "at"] (sp_xi (He.ga K "BadSum") "at") := by
  refine F.ok sc_BadSum___init__ (fun vs H Q E h => ?_) (fun cdv A outer s H vs Q E hr h => ?_)
  · obtain ⟨a, v, rfl, _⟩ := h
    rfl
  · obtain ⟨a, v, rfl, ha, k⟩ := h
    exact ⟨_, pss_one (ps_of (pv 0) (pv 1)), _, rfl, _, rfl, a, _, rfl, o, no, ha, fun dx h1 h2 => k dx h1 h2⟩
end
section
variable {P : Program} {w : World} {K : PySem.W.Frag} {mg : Str → Option Value} {base : Heap}
theorem ok_law_seed {f : Addr} {fd : FuncData} (F : FnP K "_law_seed" "_law_seed" s_law_seed f fd) (T : Txt K mg)   : FnOk P w K mg base (L2.CX P w) 1 f fd ["_law_script", "_law_at"] (sp_law_seed K) := by
  refine F.ok sc_law_seed (fun vs H Q E h => ?_) (fun cdv A outer s H vs Q E hr h => ?_)
  · obtain ⟨a, ns, n, rfl, _⟩ := h
    rfl
  · have nd := sc_law_seed.nd
    have tk := takes_of (E := E) (X := (cxOf (L2.CX P w) P w K mg base ["_law_script", "_law_at", "_law_cell", "_law_mixed", "_law_k", "_law_each"] "_law_seed" (defScope s_law_seed) f cdv A outer s H E)) rfl rfl rfl rfl
    have po : PassesOwn (model P w) (cxOf (L2.CX P w) P w K mg base ["_law_script", "_law_at", "_law_cell", "_law_mixed", "_law_k", "_law_each"] "_law_seed" (defScope s_law_seed) f cdv A outer s H E).A (cxOf (L2.CX P w) P w K mg base ["_law_script", "_law_at", "_law_cell", "_law_mixed", "_law_k", "_law_each"] "_law_seed" (defScope s_law_seed) f cdv A outer s H E).env (cxOf (L2.CX P w) P w K mg base ["_law_script", "_law_at", "_law_cell", "_law_mixed", "_law_k", "_law_each"] "_law_seed" (defScope s_law_seed) f cdv A outer s H E).xe := passes_of (X := (cxOf (L2.CX P w) P w K mg base ["_law_script", "_law_at", "_law_cell", "_law_mixed", "_law_k", "_law_each"] "_law_seed" (defScope s_law_seed) f cdv A outer s H E)) rfl
    obtain ⟨a, ns, n, rfl, hS, h0, k⟩ := h
    refine ⟨_, (pss_cons (q_set 2 nd (pe_ifExp (pt_cmpR op_dLt (pv 1) (pe_callB (cl_len K) (by rfl) T.n_len bt_len (pa_cons (pv 0) pa_nil)) (nomark _)) (pe_ix (ix_dyn K) (pv 0) (pv 1) (fun _ _ => rfl)) pe_int)) (pss_cons (q_set 3 nd (pe_op op_dAdd pe_int (pe_op op_dMul pe_int (pv 1)))) (pss_cons (ps_for po rfl (q_enum K T.n_enumerate (pa_cons (pe_slice (sl_dyn K) (pv 0) po_none (po_some pe_int)) pa_nil)) (q_gtup K 2 (pgs_cons (q_name 4 nd) (pgs_cons (q_name 5 nd) pgs_nil))) (pss_one (q_set 3 nd (pe_op op_dMod (pe_callTy cl_int (by rfl) T.n_int bt_int (pa_cons (pe_op op_dAdd (pe_op op_dAdd (pe_op op_dMul (pv 3) pe_int) (pe_op op_dMod (pe_callTy cl_int (by rfl) T.n_int bt_int (pa_cons (pv 5) pa_nil)) pe_int)) (pe_op op_dMul pe_int (pv 4))) pa_nil)) pe_int)))) (pss_one (ps_ret (pe_lst (pa_cons (pe_ifExp (pt_cmpR op_dGe (pe_callB cl_abs (by rfl) T.n_abs bt_abs (pa_cons (pv 2) pa_nil)) (pe_op op_dPow pe_int pe_int) (nomark _)) (pe_callB cl_abs (by rfl) T.n_abs bt_abs (pa_cons (pv 2) pa_nil)) pe_int) (pa_cons (pv 3) pa_nil)))))))), ?_⟩
    refine g_start (σ' := some _ :: some _ :: none :: none :: none :: none :: []) rfl ?_
    walk_at "go"
    refine' g_all (α := Int) (fun rest => ?main) ?rest
    case main =>
      refine g_iteD (fun hlt => ?_) (fun hlt => ?_)
      · walk_at "go"
        obtain ⟨c, hc⟩ := atI_int h0 hlt
        refine g_ix_l (Or.inl hS) hc ?_
        exact rest c
      · walk_at "go1"
        exact rest 0
    case rest =>
      intro c
      walk_at "go"
      intro l hl
      walk_at "go"
      refine lp_it (walk_enum (xs := cutV (ns.map V.int) none (some 63))) (fun i σ' H' => ∃ (m : Int) (u v : Option V), σ' = [some (.ref a), some (.int n), some (.int c), some (.int m), u, v] ∧ Same H H' ∧ H' l = some (.lst (cutV (ns.map V.int) none (some 63)))) ?_ ?_ ?_ ?_
      · exact ⟨_, none, none, rfl, (Same.refl H).new hl, upd_same⟩
      · rintro i σ' H' _ ⟨m, u, v, rfl, s1, h1⟩
        exact SqL.of h1
      · rintro i x σ' H' H2 hi ⟨m, u, v, rfl, s1, h1⟩ ⟨t, x1, y1, rfl, ht, rfl, e1, e2⟩
        cases e1
        obtain ⟨z, _, rfl⟩ := List.mem_map.mp (cutV_mem (List.mem_of_getElem? e2))
        walk_at "go"
        exact ⟨_, _, _, rfl, s1.new ht, by walk_at "hp"⟩
      · rintro σ' H' ⟨m, u, v, rfl, s1, h1⟩
        walk_at "go"
        refine g_iteD (fun _ => ?_) (fun _ => ?_)
        all_goals
          walk_at "go"
          refine ⟨by show 2 ≤ sizeLine; decide, fun p hp => ?_⟩
          exact k p _ (s1.new hp) (s1.free hp) Bag.at
end
section
variable {P : Program} {w : World} {K : PySem.W.Frag} {mg : Str → Option Value} {base : Heap}
theorem ok_law_take {f : Addr} {fd : FuncData} (F : FnP K "_law_take" "_law_take" s_law_take f fd) (T : Txt K mg)   : FnOk P w K mg base (L2.CX P w) 1 f fd ["_law_bag", "_law_many"] (sp_law_take K) := by
  refine F.ok sc_law_take (fun vs H Q E h => ?_) (fun cdv A outer s H vs Q E hr h => ?_)
  · obtain ⟨b, many, rfl, _⟩ := h
    rfl
  · have nd := sc_law_take.nd
    have tk := takes_of (E := E) (X := (cxOf (L2.CX P w) P w K mg base ["_law_bag", "_law_many", "_law_digit"] "_law_take" (defScope s_law_take) f cdv A outer s H E)) rfl rfl rfl rfl
    have po : PassesOwn (model P w) (cxOf (L2.CX P w) P w K mg base ["_law_bag", "_law_many", "_law_digit"] "_law_take" (defScope s_law_take) f cdv A outer s H E).A (cxOf (L2.CX P w) P w K mg base ["_law_bag", "_law_many", "_law_digit"] "_law_take" (defScope s_law_take) f cdv A outer s H E).env (cxOf (L2.CX P w) P w K mg base ["_law_bag", "_law_many", "_law_digit"] "_law_take" (defScope s_law_take) f cdv A outer s H E).xe := passes_of (X := (cxOf (L2.CX P w) P w K mg base ["_law_bag", "_law_many", "_law_digit"] "_law_take" (defScope s_law_take) f cdv A outer s H E)) rfl
    obtain ⟨b, many, rfl, ⟨x, y, hb⟩, h1, h2, k⟩ := h
    have h3 : many.natAbs.log2 < 9000 := log2_small (Nat.lt_of_lt_of_le (show many.natAbs < 2 ^ 200 by omega) (by decide)) (by omega)
    refine ⟨_, (pss_cons (ps_if (pt_cmpR op_dGt (pe_ix (ix_dyn K) (pv 0) pe_int (fun _ _ => rfl)) pe_int (nomark _)) (pss_cons (q_set 2 nd (pe_op op_dMod (pe_callTy cl_int (by rfl) T.n_int bt_int (pa_cons (pe_ix (ix_dyn K) (pv 0) pe_int (fun _ _ => rfl)) pa_nil)) (pv 1))) (pss_cons (ps_asg (pe_op op_dDiv (pe_ix (ix_dyn K) (pv 0) pe_int (fun _ _ => rfl)) (pv 1)) (pg_sub (pv 0) pe_int set_list)) (pss_one (ps_ret (pv 2))))) pss_nil) (pss_cons (ps_asg (pe_op op_dMod (pe_callTy cl_int (by rfl) T.n_int bt_int (pa_cons (pe_op op_dAdd (pe_op op_dMul (pe_ix (ix_dyn K) (pv 0) pe_int (fun _ _ => rfl)) pe_int) pe_int) pa_nil)) pe_int) (pg_sub (pv 0) pe_int set_list)) (pss_one (ps_ret (pe_op op_dMod (pe_op op_dDiv (pe_op op_dMod (pe_callTy cl_int (by rfl) T.n_int bt_int (pa_cons (pe_op op_dMul (pe_op op_dDiv (pe_ix (ix_dyn K) (pv 0) pe_int (fun _ _ => rfl)) pe_int) pe_int) pa_nil)) pe_int) pe_int) (pv 1)))))), ?_⟩
    refine g_start (σ' := some _ :: some _ :: none :: []) rfl ?_
    walk_at "go"
    refine g_iteD (fun h => ?_) (fun h => ?_)
    · walk_at "go"
      exact k _ _ (Int.emod_nonneg _ (by omega)) (Int.emod_lt_of_pos _ h1) ((Sx.refl H).put (by simp)) Bag.at
    · walk_at "go"
      exact k _ _ (Int.emod_nonneg _ (by omega)) (Int.emod_lt_of_pos _ h1) ((Sx.refl H).put (by simp)) Bag.at
end
section
variable {P : Program} {w : World} {K : PySem.W.Frag} {mg : Str → Option Value} {base : Heap}
theorem ok_law_of {f : Addr} {fd : FuncData} (F : FnP K "_law_of" "_law_of" s_law_of f fd) (T : Txt K mg) (C_law_take : Cal P w K mg base 1 "_law_take" ["_law_bag", "_law_many"] (sp_law_take K))  : FnOk P w K mg base (L2.CX P w) 2 f fd ["_law_bag", "_law_some"] (sp_law_of K) := by
  refine F.ok sc_law_of (fun vs H Q E h => ?_) (fun cdv A outer s H vs Q E hr h => ?_)
  · obtain ⟨b, p, xs, rfl, _⟩ := h
    rfl
  · have nd := sc_law_of.nd
    have tk := takes_of (E := E) (X := (cxOf (L2.CX P w) P w K mg base ["_law_bag", "_law_some"] "_law_of" (defScope s_law_of) f cdv A outer s H E)) rfl rfl rfl rfl
    have po : PassesOwn (model P w) (cxOf (L2.CX P w) P w K mg base ["_law_bag", "_law_some"] "_law_of" (defScope s_law_of) f cdv A outer s H E).A (cxOf (L2.CX P w) P w K mg base ["_law_bag", "_law_some"] "_law_of" (defScope s_law_of) f cdv A outer s H E).env (cxOf (L2.CX P w) P w K mg base ["_law_bag", "_law_some"] "_law_of" (defScope s_law_of) f cdv A outer s H E).xe := passes_of (X := (cxOf (L2.CX P w) P w K mg base ["_law_bag", "_law_some"] "_law_of" (defScope s_law_of) f cdv A outer s H E)) rfl
    obtain ⟨b, p, xs, rfl, hb, hp, hne, h1, h2, k⟩ := h
    refine ⟨_, (pss_one (ps_ret (pe_ix (ix_dyn K) (pv 1) (q_call C_law_take tk (hr.mono (by decide)) (pa_cons (pv 0) (pa_cons (pe_callB (cl_len K) (by rfl) T.n_len bt_len (pa_cons (pv 1) pa_nil)) pa_nil))) (fun _ _ => rfl)))), ?_⟩
    refine g_start (σ' := some _ :: some _ :: []) rfl ?_
    walk_at "go"
    refine ⟨b, _, rfl, hb, by omega, by omega, fun d H' d0 d1 s1 b1 => ?_⟩
    obtain ⟨v, hv, e⟩ := atI_mem d0 d1
    exact g_ix_l (Or.inl (SqL.of (s1.get1 hne hp))) e (k v H' hv s1 b1)
end
section
variable {P : Program} {w : World} {K : PySem.W.Frag} {mg : Str → Option Value} {base : Heap}
theorem ok_is_number {f : Addr} {fd : FuncData} (F : FnP K "is_number" "is_number" s_is_number f fd) (T : Txt K mg)   : FnOk P w K mg base (L2.CX P w) 1 f fd ["token"] (sp_is_number K) := by
  refine F.ok sc_is_number (fun vs H Q E h => ?_) (fun cdv A outer s H vs Q E hr h => ?_)
  · obtain ⟨t, rfl, _⟩ := h
    rfl
  · have nd := sc_is_number.nd
    have tk := takes_of (E := E) (X := (cxOf (L2.CX P w) P w K mg base ["token", "char"] "is_number" (defScope s_is_number) f cdv A outer s H E)) rfl rfl rfl rfl
    have po : PassesOwn (model P w) (cxOf (L2.CX P w) P w K mg base ["token", "char"] "is_number" (defScope s_is_number) f cdv A outer s H E).A (cxOf (L2.CX P w) P w K mg base ["token", "char"] "is_number" (defScope s_is_number) f cdv A outer s H E).env (cxOf (L2.CX P w) P w K mg base ["token", "char"] "is_number" (defScope s_is_number) f cdv A outer s H E).xe := passes_of (X := (cxOf (L2.CX P w) P w K mg base ["token", "char"] "is_number" (defScope s_is_number) f cdv A outer s H E)) rfl
    obtain ⟨t, rfl, hl, k⟩ := h
    have hz : t.length ≤ sizeLine := by rw [sizeLine_eq]; omega
    refine ⟨_, (pss_cons (ps_if (PW.pt (pw_or (pt_cmpR (op_dEq K hr.units) (pv 0) pe_str (nomark _)) (pw_or1 (pt_cmpR op_dGt (pe_callB (cl_len K) (by rfl) T.n_len bt_len (pa_cons (pv 0) pa_nil)) pe_int (nomark _))))) (pss_one (ps_ret pe_bl)) pss_nil) (pss_cons (ps_for po rfl (pi_str (pv 0)) (q_name 1 nd) (pss_one (ps_if (pt_cmpR (op_dNotIn K) (pv 1) pe_str (by rfl)) (pss_one (ps_ret pe_bl)) pss_nil))) (pss_one (ps_ret (q_orT K (pe_cmpR (op_dEq K hr.units) (pv 0) pe_str (nomark _)) (pe_one (pe_cmpR (op_dNe K hr.units) (pe_ix (ix_dyn K) (pv 0) pe_int (fun _ _ => rfl)) pe_str (nomark _)))))))), ?_⟩
    refine g_start (σ' := some _ :: none :: []) rfl ?_
    walk_at "go"
    refine g_iteD (fun e => ?_) (fun e => ?_)
    · walk_at "go"
      rw [show isNum t = false by unfold isNum; rw [decide_eq_true e]; rfl] at k
      exact k
    · walk_at "go"
      refine g_iteD (fun e2 => ?_) (fun e2 => ?_)
      · walk_at "go"
        rw [show isNum t = false by unfold isNum; rw [decide_eq_true e2, Bool.or_true]; rfl] at k
        exact k
      · walk_at "go"
        refine lp_it walk_str (fun i σ' H' => ∃ v : Option V, σ' = [some (.str t), v] ∧ H' = H ∧ ((t.cps.toList.take i).all fun c => decide (c ∈ digs.cps.toList)) = true) ⟨none, rfl, rfl, rfl⟩ (fun _ _ _ _ _ => trivial) ?_ ?_
        · rintro i x σ' H' H2 hi ⟨v, rfl, rfl, ha⟩ ⟨rfl, c, hc, rfl⟩
          have hc' : t.cps.toList[i]? = some c := by simpa using hc
          walk_at "go"
          refine g_iteN (fun hn => ?_) (fun hn => ?_)
          · walk_at "go"
            have hb := all_no (f := fun c => decide (c ∈ digs.cps.toList)) hc' (decide_eq_false hn)
            rw [show isNum t = false by unfold isNum; rw [hb]; simp] at k
            exact k
          · walk_at "go"
            exact ⟨_, rfl, rfl, all_take_succ hc' (decide_eq_true hn) ha⟩
        · rintro σ' H' ⟨v, rfl, rfl, ha⟩
          have ha' : (t.cps.toList.all fun c => decide (c ∈ digs.cps.toList)) = true := by
            rw [List.take_of_length_le (by simp)] at ha
            exact ha
          have kk : Q (.bl (decide (t = "0") || !decide ((⟨#[t.cps.toList.headD 0]⟩ : Str) = "0"))) H' := by
            have : isNum t = (decide (t = "0") || !decide ((⟨#[t.cps.toList.headD 0]⟩ : Str) = "0")) := by
              unfold isNum
              rw [ha', decide_eq_false e, decide_eq_false e2]
              simp
            rw [← this]
            exact k
          walk_at "go"
          refine g_iteD (fun e3 => ?_) (fun e3 => ?_)
          · rw [decide_eq_true e3] at kk ⊢
            exact kk
          · walk_at "go"
            refine g_ix_s hz (atI_zero (nil_of_ne e)) ?_
            walk_at "go"
            rw [decide_eq_false e3] at kk
            exact kk
end
section
variable {P : Program} {w : World} {K : PySem.W.Frag} {mg : Str → Option Value} {base : Heap}
theorem ok_read_sum {f : Addr} {fd : FuncData} (F : FnP K "read_sum" "read_sum" s_read_sum f fd) (T : Txt K mg) (C_is_number : Cal P w K mg base 1 "is_number" ["token"] (sp_is_number K))  : FnOk P w K mg base (L2.CX P w) 2 f fd ["tokens", "start", "names"] (sp_read_sum K) := by
  refine F.ok sc_read_sum (fun vs H Q E h => ?_) (fun cdv A outer s H vs Q E hr h => ?_)
  · obtain ⟨p, q, toks, names, s, rfl, _⟩ := h
    rfl
  · have nd := sc_read_sum.nd
    have tk := takes_of (E := E) (X := (cxOf (L2.CX P w) P w K mg base ["tokens", "start", "names", "terms", "factor", "at", "token"] "read_sum" (defScope s_read_sum) f cdv A outer s H E)) rfl rfl rfl rfl
    have po : PassesOwn (model P w) (cxOf (L2.CX P w) P w K mg base ["tokens", "start", "names", "terms", "factor", "at", "token"] "read_sum" (defScope s_read_sum) f cdv A outer s H E).A (cxOf (L2.CX P w) P w K mg base ["tokens", "start", "names", "terms", "factor", "at", "token"] "read_sum" (defScope s_read_sum) f cdv A outer s H E).env (cxOf (L2.CX P w) P w K mg base ["tokens", "start", "names", "terms", "factor", "at", "token"] "read_sum" (defScope s_read_sum) f cdv A outer s H E).xe := passes_of (X := (cxOf (L2.CX P w) P w K mg base ["tokens", "start", "names", "terms", "factor", "at", "token"] "read_sum" (defScope s_read_sum) f cdv A outer s H E)) rfl
    obtain ⟨p, q, toks, names, s0, rfl, hp, hq, hl, k⟩ := h
    refine ⟨_, (pss_cons (q_set 3 nd (pe_lst pa_nil)) (pss_cons (q_set 4 nd pe_int) (pss_cons (q_set 5 nd (pv 1)) (pss_one (ps_while po (q_truth K pe_bl) (pss_cons (q_set 6 nd (pe_ifExp (pt_cmpR op_dLt (pv 5) (pe_callB (cl_len K) (by rfl) T.n_len bt_len (pa_cons (pv 0) pa_nil)) (nomark _)) (pe_ix (ix_dyn K) (pv 0) (pv 5) (fun _ _ => rfl)) pe_str)) (pss_cons (ps_if (pt_cmpR (op_dIn K) (pv 6) (pv 2) (by rfl)) (pss_one (ps_expr (q_bm K PySem.F.plainAttrs_list PySem.F.slot_list_append PySem.F.type_list_append m_append (pv 3) (pa_cons (pe_tup (pa_cons (pv 4) (pa_cons (pv 6) pa_nil))) pa_nil)))) (pss_one (ps_if (q_truth K (q_call C_is_number tk (hr.mono (by decide)) (pa_cons (pv 6) pa_nil))) (pss_one (ps_expr (q_bm K PySem.F.plainAttrs_list PySem.F.slot_list_append PySem.F.type_list_append m_append (pv 3) (pa_cons (pe_tup (pa_cons (pv 4) (pa_cons (pe_callTy cl_int (by rfl) T.n_int bt_int (pa_cons (pv 6) pa_nil)) pa_nil))) pa_nil)))) (pss_one (ps_ret (pe_tup (pa_cons pe_non (pa_cons (pv 5) pa_nil)))))))) (pss_cons (q_aug 5 nd pe_int ip_add) (pss_cons (ps_if (PW.pt (pw_or (pt_cmpR op_dGe (pv 5) (pe_callB (cl_len K) (by rfl) T.n_len bt_len (pa_cons (pv 0) pa_nil)) (nomark _)) (pw_or (pt_cmpR (op_dNotIn K) (pe_ix (ix_dyn K) (pv 0) (pv 5) (fun _ _ => rfl)) (pe_tup (pa_cons pe_str (pa_cons pe_str pa_nil))) (by rfl)) (pw_or1 (pt_cmpR (op_dEq K hr.units) (pe_callB (cl_len K) (by rfl) T.n_len bt_len (pa_cons (pv 3) pa_nil)) (q_glob T.g_MOST_TERMS) (nomark _)))))) (pss_one (ps_ret (pe_tup (pa_cons (pv 3) (pa_cons (pv 5) pa_nil))))) pss_nil) (pss_cons (q_set 4 nd (pe_ifExp (pt_cmpR (op_dEq K hr.units) (pe_ix (ix_dyn K) (pv 0) (pv 5) (fun _ _ => rfl)) pe_str (nomark _)) pe_int (pe_un un_neg pe_int))) (pss_one (q_aug 5 nd pe_int ip_add)))))))))))), ?_⟩
    refine g_start (σ' := some _ :: some _ :: some _ :: none :: none :: none :: none :: []) rfl ?_
    walk_at "go"
    refine al fun l hl0 => ?_
    walk_at "go"
    refine ⟨fun m σ' H' => ∃ (n : Nat) (f : Int) (acc : Terms) (u : Option V), σ' = [some (.ref p), some (.int (s0 : Nat)), some (.ref q), some (.ref l), some (.int f), some (.int (n : Nat)), u] ∧ Same H H' ∧ TermsAt H' l acc ∧ acc.length + m = 5 ∧ 0 < m ∧ readS names toks m n f acc = readS names toks 5 s0 1 [], ⟨5, s0, 1, [], none, rfl, (Same.refl H).new hl0, TermsAt.nil, rfl, by decide, rfl⟩, ?_⟩
    rintro m σ' H' ⟨n, f, acc, u, rfl, s1, ⟨as, hla, hpa⟩, hm, hm0, hrd⟩
    obtain ⟨m, rfl⟩ : ∃ j, m = j + 1 := ⟨m - 1, by omega⟩
    walk_at "go"
    refine ⟨_, fun _ _ h => h, ?_⟩
    walk_at "go"
    refine' g_allW (α := Str) (W := fun c => c = toks.getD n "") (fun rest => ?main) ?rest
    case main =>
      refine g_iteD (fun hlt => ?_) (fun hlt => ?_)
      · walk_at "go"
        have hn : n < toks.length := by simpa using hlt
        obtain ⟨c, hc⟩ : ∃ c, toks[n]? = some c := ⟨_, List.getElem?_eq_getElem hn⟩
        refine g_ix_l (Or.inl (sqL_same hp s1)) (atI_map hc) ?_
        exact rest c (by rw [List.getD_eq_getElem?_getD, hc]; rfl)
      · walk_at "go1"
        refine rest "" ?_
        rw [List.getD_eq_getElem?_getD, List.getElem?_eq_none (by simp at hlt; omega)]
        rfl
    case rest =>
      intro c hc
      have hlc : c.length ≤ 10000 := by
        rw [hc, List.getD_eq_getElem?_getD]
        cases e : toks[n]? with
        | none => exact Nat.zero_le _
        | some d => exact hl d (List.mem_of_getElem? e)
      have hlen : as.length ≤ 4 := by have := Paired.length hpa; omega
      walk_at "go"
      refine' g_allW (α := Hp) (W := fun H2 => ∃ t, termOf names c = some t ∧ Same H H2 ∧ TermsAt H2 l (acc ++ [(f, t)])) (fun rest2 => ?main2) ?rest2
      case main2 =>
        refine g_iteD (fun hin => ?_) (fun hin => ?_)
        · walk_at "go"
          refine al fun a ha => ?_
          walk_at "go"
          have s2 := (s1.new (o := .tup [.int f, .str c]) ha).mut (o := .lst (as.map V.ref ++ [.ref a])) hl0
          have t2 : TermsAt _ l (acc ++ [(f, .nam c)]) := TermsAt.snoc (t := .nam c) (f := f) hla hpa ha
          change Same H (upd (upd H' a (.tup [.int f, .str c])) l _) at s2
          change TermsAt (upd (upd H' a (.tup [.int f, .str c])) l _) l _ at t2
          generalize upd (upd H' a (.tup [.int f, .str c])) l _ = H2 at s2 t2 ⊢
          exact rest2 H2 ⟨_, by unfold termOf; rw [if_pos hin], s2, t2⟩
        · walk_at "go"
          refine ⟨c, rfl, hlc, ?_⟩
          walk_at "go"
          refine g_ite (fun hn => ?_) (fun hn => ?_)
          · walk_at "go"
            refine g_int_s (isNum_int hn) (by have := (isNum_parts hn).2.1; omega) ?_
            walk_at "go"
            refine al fun a ha => ?_
            walk_at "go"
            have s2 := (s1.new (o := .tup [.int f, .int (numVal c)]) ha).mut (o := .lst (as.map V.ref ++ [.ref a])) hl0
            have t2 : TermsAt _ l (acc ++ [(f, .num (numVal c))]) := TermsAt.snoc (t := .num (numVal c)) (f := f) hla hpa ha
            change TermsAt (upd (upd H' a (.tup [.int f, .int (numVal c)])) l _) l _ at t2
            generalize upd (upd H' a (.tup [.int f, .int (numVal c)])) l _ = H2 at s2 t2 ⊢
            exact rest2 H2 ⟨_, by unfold termOf; rw [if_neg hin, if_pos hn], s2, t2⟩
          · walk_at "go"
            refine al fun a ha => ?_
            refine k a _ (s1.new ha) (s1.free ha) ?_
            have e : termOf names (toks.getD n "") = none := by
              rw [← hc]; unfold termOf; rw [if_neg hin, if_neg (by rw [hn]; exact Bool.false_ne_true)]
            rw [← hrd]
            unfold readS
            rw [e]
            exact upd_same
      case rest2 =>
        rintro H2 ⟨t, ht, s2, as2, hl2, hp2⟩
        have hlen2 : as2.length = acc.length + 1 := by have := Paired.length hp2; simpa using this
        have e : termOf names (toks.getD n "") = some t := by rw [← hc]; exact ht
        have fin : ∀ H3, Same H H3 → TermsAt H3 l (acc ++ [(f, t)]) → (toks.length ≤ n + 1 ∨ isOp (toks.getD (n + 1) "") = false ∨ acc.length + 1 = 5) → ∀ a, H3 a = none → Q (.ref a) (upd H3 a (.tup [.ref l, .int ((n : Int) + 1)])) := fun H3 s3 t3 hs a ha => by
          refine k a _ (s3.new ha) (s3.free ha) ?_
          rw [← hrd]
          unfold readS
          rw [e]
          dsimp only
          rw [if_pos hs]
          exact ⟨l, hl0, upd_same, t3.same ((Same.refl H3).new ha)⟩
        walk_at "go"
        refine g_iteD (fun h5 => ?_) (fun h5 => ?_)
        · walk_at "go"
          exact al fun a ha => fin H2 s2 ⟨as2, hl2, hp2⟩ (.inl (by simp at h5; omega)) a ha
        · walk_at "go"
          have hn1 : n + 1 < toks.length := by simp at h5; omega
          obtain ⟨d, hd⟩ : ∃ d, toks[n + 1]? = some d := ⟨_, List.getElem?_eq_getElem hn1⟩
          have hgd : toks.getD (n + 1) "" = d := by rw [List.getD_eq_getElem?_getD, hd]; rfl
          refine g_ix_l (Or.inl (sqL_same hp s2)) (atI_map (i := n + 1) hd) ?_
          walk_at "go"
          refine al fun b hb => ?_
          have s3 : Same H (upd H2 b (.tup [.str "+", .str "-"])) := s2.new hb
          have t3 : TermsAt (upd H2 b (.tup [.str "+", .str "-"])) l (acc ++ [(f, t)]) := TermsAt.same ⟨as2, hl2, hp2⟩ ((Same.refl H2).new hb)
          have hl3 : upd H2 b (.tup [.str "+", .str "-"]) l = some (.lst (as2.map V.ref)) := by walk_at "hp"
          have h3b : upd H2 b (.tup [.str "+", .str "-"]) b = some (.tup [.str "+", .str "-"]) := upd_same
          generalize upd H2 b (.tup [.str "+", .str "-"]) = H3 at s3 t3 hl3 h3b ⊢
          walk_at "go"
          rw [inV_ops]
          refine g_ite (fun h6 => ?_) (fun h6 => ?_)
          · walk_at "go"
            exact al fun a ha => fin H3 s3 t3 (.inr (.inl (by rw [hgd]; simpa using h6))) a ha
          · walk_at "go"
            refine g_iteD (fun h7 => ?_) (fun h7 => ?_)
            · walk_at "go"
              exact al fun a ha => fin H3 s3 t3 (.inr (.inr (by simp at h7; omega))) a ha
            · walk_at "go"
              refine g_ix_l (Or.inl (sqL_same hp s3)) (atI_map (i := n + 1) hd) ?_
              walk_at "go"
              have next : readS names toks m (n + 2) (signOf d) (acc ++ [(f, t)]) = readS names toks 5 s0 1 [] := by
                rw [← hrd]
                conv => rhs; unfold readS
                rw [e]
                dsimp only
                rw [if_neg ?_, hgd]
                rintro (z | z | z)
                · omega
                · rw [hgd] at z; rw [z] at h6; cases h6
                · simp at h7; omega
              have hm1 : 0 < m := by simp at h7; omega
              refine g_iteD (fun h8 => ?_) (fun h8 => ?_)
              · walk_at "go"
                refine ⟨m, by omega, n + 2, 1, acc ++ [(f, t)], _, rfl, s3, t3, by simp; omega, hm1, ?_⟩
                rw [← next, show signOf d = 1 by unfold signOf; rw [if_pos h8]]
              · walk_at "go"
                refine ⟨m, by omega, n + 2, -1, acc ++ [(f, t)], _, rfl, s3, t3, by simp; omega, hm1, ?_⟩
                rw [← next, show signOf d = -1 by unfold signOf; rw [if_neg h8]]
end
section
variable {P : Program} {w : World} {K : PySem.W.Frag} {mg : Str → Option Value} {base : Heap}
theorem ok_Sum___init__ {f : Addr} {fd : FuncData} (F : FnP K "__init__" "Sum.__init__" s_Sum___init__ f fd) (T : Txt K mg) (C_read_sum : Cal P w K mg base 2 "read_sum" ["tokens", "start", "names"] (sp_read_sum K)) (X_BadSum : XC P w K mg base 1 "BadSum" "at" (He.ga K "BadSum"))  : FnOk P w K mg base (L2.CX P w) 3 f fd ["self", "text", "names"] (sp_Sum___init__ K) := by
  refine F.ok sc_Sum___init__ (fun vs H Q E h => ?_) (fun cdv A outer s H vs Q E hr h => ?_)
  · obtain ⟨x, dx, q, text, names, rfl, _⟩ := h
    rfl
  · have nd := sc_Sum___init__.nd
    have tk := takes_of (E := E) (X := (cxOf (L2.CX P w) P w K mg base ["self", "text", "names", "tokens", "terms", "stop"] "Sum.__init__" (defScope s_Sum___init__) f cdv A outer s H E)) rfl rfl rfl rfl
    have po : PassesOwn (model P w) (cxOf (L2.CX P w) P w K mg base ["self", "text", "names", "tokens", "terms", "stop"] "Sum.__init__" (defScope s_Sum___init__) f cdv A outer s H E).A (cxOf (L2.CX P w) P w K mg base ["self", "text", "names", "tokens", "terms", "stop"] "Sum.__init__" (defScope s_Sum___init__) f cdv A outer s H E).env (cxOf (L2.CX P w) P w K mg base ["self", "text", "names", "tokens", "terms", "stop"] "Sum.__init__" (defScope s_Sum___init__) f cdv A outer s H E).xe := passes_of (X := (cxOf (L2.CX P w) P w K mg base ["self", "text", "names", "tokens", "terms", "stop"] "Sum.__init__" (defScope s_Sum___init__) f cdv A outer s H E)) rfl
    obtain ⟨x, dx, q, text, names, rfl, hx, hq, hne, hl, kE, kQ⟩ := h
    have cS := T.c_Sum
    have aT := T.a_Sum_terms
    have aS := T.a_Sum_shown
    have hww := StrLaws.words_weight text
    refine ⟨_, (pss_cons (q_set 3 nd (q_bm0 K PySem.F.plainAttrs_str PySem.F.slot_str_split PySem.F.type_str_split m_words (pv 1))) (pss_cons (ps_asg (q_call C_read_sum tk (hr.mono (by decide)) (pa_cons (pv 3) (pa_cons pe_int (pa_cons (pv 2) pa_nil)))) (q_gtup K 2 (pgs_cons (q_name 4 nd) (pgs_cons (q_name 5 nd) pgs_nil)))) (pss_cons (ps_if (PW.pt (pw_or (pt_cmpR op_dIs (pv 4) pe_non (nomark _)) (pw_or1 (pt_cmpR op_dLt (pv 5) (pe_callB (cl_len K) (by rfl) T.n_len bt_len (pa_cons (pv 3) pa_nil)) (nomark _))))) (pss_one (q_raise X_BadSum tk (hr.mono (by decide)) (pa_cons (pv 5) pa_nil))) pss_nil) (pss_cons (q_sfld K (pv 0) (pv 4)) (pss_one (q_sfld K (pv 0) (q_bm K PySem.F.plainAttrs_str PySem.F.slot_str_join PySem.F.type_str_join (m_join K) pe_str (pa_cons (pv 3) pa_nil)))))))), ?_⟩
    refine g_start (σ' := some _ :: some _ :: some _ :: none :: none :: none :: []) rfl ?_
    walk_at "go"
    intro tp htp
    walk_at "go"
    refine ⟨tp, q, Txt.words text, names, 0, rfl, SqL.of upd_same, sqL_same hq ((Same.refl H).new htp), fun t ht => Nat.le_trans (lens_words ht) hl, fun t H' s1 h0 hrs => ?_⟩
    have s2 : Same H H' := Same.trans ((Same.refl H).new htp) s1
    have htp2 := s1 _ _ (upd_same (H := H) (a := tp))
    rcases e : readS names (Txt.words text) 5 0 1 [] with ⟨_ | ts, n⟩
    · rw [e] at hrs kE
      have hrs : H' t = some (.tup [.non, .int (n : Nat)]) := hrs
      walk_at "go"
      refine g_iteD (fun _ => ?_) (fun z => absurd rfl z)
      walk_at "go"
      intro d hd
      exact kE n (.inl rfl) rfl d _ (s2.new hd) (s2.free hd) upd_same
    · rw [e] at hrs kE
      obtain ⟨l, hl0, ht, hts⟩ := hrs
      walk_at "go"
      refine g_iteD (fun z => by cases z) (fun _ => ?_)
      walk_at "go"
      refine g_iteD (fun h5 => ?_) (fun h5 => ?_)
      · walk_at "go"
        intro d hd
        exact kE n (.inr (by simpa using h5)) rfl d _ (s2.new hd) (s2.free hd) upd_same
      · have en : n = (Txt.words text).length := by
          have := readS_le hne _ _ _ _ _ _ e
          simp at h5
          omega
        subst en
        have nx1 : x ≠ tp := ne_of_none hx htp
        walk_at "go"
        refine g_join (ys := Txt.words text) (Or.inl (SqL.of (by walk_at "hp"))) (by rw [show ((" " : Str)).length = 1 from rfl]; omega) ?_
        walk_at "go"
        rw [upd_upd, put_shown]
        refine kQ ts _ e ((Sx.of s2).put (by simp)) ⟨dx, l, upd_same, ?_⟩
        obtain ⟨as, g1, g2⟩ := hts
        refine ⟨as, ?_, Paired.mapP g2 fun a u ea => ?_⟩
        · rw [upd_ne (ne_of g1 (s2 _ _ hx) (by intro z; cases z))]; exact g1
        · rw [upd_ne (ne_of ea (s2 _ _ hx) (by intro z; cases z))]; exact ea
end
section
variable {P : Program} {w : World} {K : PySem.W.Frag} {mg : Str → Option Value} {base : Heap}
theorem ok_law_names {f : Addr} {fd : FuncData} (F : FnP K "_law_names" "_law_names" s_law_names f fd) (T : Txt K mg) (C_law_of : Cal P w K mg base 2 "_law_of" ["_law_bag", "_law_some"] (sp_law_of K)) (C_law_take : Cal P w K mg base 1 "_law_take" ["_law_bag", "_law_many"] (sp_law_take K))  : FnOk P w K mg base (L2.CX P w) 3 f fd ["_law_bag", "_law_many"] (sp_law_names K) := by
  refine F.ok sc_law_names (fun vs H Q E h => ?_) (fun cdv A outer s H vs Q E hr h => ?_)
  · obtain ⟨b, many, rfl, _⟩ := h
    rfl
  · have nd := sc_law_names.nd
    have tk := takes_of (E := E) (X := (cxOf (L2.CX P w) P w K mg base ["_law_bag", "_law_many", "_law_first", "_law_names_here", "_law_k", "_law_letters", "_law_turn"] "_law_names" (defScope s_law_names) f cdv A outer s H E)) rfl rfl rfl rfl
    have po : PassesOwn (model P w) (cxOf (L2.CX P w) P w K mg base ["_law_bag", "_law_many", "_law_first", "_law_names_here", "_law_k", "_law_letters", "_law_turn"] "_law_names" (defScope s_law_names) f cdv A outer s H E).A (cxOf (L2.CX P w) P w K mg base ["_law_bag", "_law_many", "_law_first", "_law_names_here", "_law_k", "_law_letters", "_law_turn"] "_law_names" (defScope s_law_names) f cdv A outer s H E).env (cxOf (L2.CX P w) P w K mg base ["_law_bag", "_law_many", "_law_first", "_law_names_here", "_law_k", "_law_letters", "_law_turn"] "_law_names" (defScope s_law_names) f cdv A outer s H E).xe := passes_of (X := (cxOf (L2.CX P w) P w K mg base ["_law_bag", "_law_many", "_law_first", "_law_names_here", "_law_k", "_law_letters", "_law_turn"] "_law_names" (defScope s_law_names) f cdv A outer s H E)) rfl
    obtain ⟨b, many, rfl, hb, hm, k⟩ := h
    refine ⟨_, (pss_cons (q_set 2 nd (q_call C_law_take tk (hr.mono (by decide)) (pa_cons (pv 0) (pa_cons pe_int pa_nil)))) (pss_cons (q_set 3 nd (pe_lst pa_nil)) (pss_cons (ps_for po rfl (pi_range1 rfl T.n_range (pa_cons (pv 1) pa_nil)) (q_name 4 nd) (pss_cons (ps_setLc (i := 5) (own := [("_law_turn", 6)]) (tt := tYes) rfl nd rfl rfl (sw_true rfl rfl rfl (by decide +kernel)) (pi_range1 rfl T.n_range (pa_cons (q_call C_law_of tk (hr.mono (by decide)) (pa_cons (pv 0) (pa_cons (pe_lst (pa_cons pe_int (pa_cons pe_int (pa_cons pe_int (pa_cons pe_int (pa_cons pe_int pa_nil)))))) pa_nil))) pa_nil)) (blkOk_by (own := [("_law_turn", 6)]) (N := ["_law_bag", "_law_many", "_law_first", "_law_names_here", "_law_k", "_law_letters", "_law_turn"]) (sc := defScope s_law_names) (by decide +kernel)) (fun _ _ _ _ _ => (q_name 6 nd)) (fun _ _ _ _ _ => pts_nil) (fun _ _ _ _ _ => (pe_ix (ix_dyn K) pe_str (q_call C_law_take takes0 (hr.mono (by decide)) (pa_cons (pv 0) (pa_cons pe_int pa_nil))) (fun _ _ => rfl)))) (pss_one (ps_expr (q_bm K PySem.F.plainAttrs_list PySem.F.slot_list_append PySem.F.type_list_append m_append (pv 3) (pa_cons (pe_op op_dAdd (pe_ix (ix_dyn K) pe_str (pe_op op_dMod (pe_op op_dAdd (pv 2) (pv 4)) pe_int) (fun _ _ => rfl)) (q_bm K PySem.F.plainAttrs_str PySem.F.slot_str_join PySem.F.type_str_join (m_join K) pe_str (pa_cons (pv 5) pa_nil))) pa_nil)))))) (pss_one (ps_ret (pv 3)))))), ?_⟩
    refine g_start (σ' := some _ :: some _ :: none :: none :: none :: none :: none :: []) rfl ?_
    walk_at "go"
    refine ⟨b, 14, rfl, hb, by decide, by decide, fun fs H1 f0 f1 s1 b1 => ?_⟩
    walk_at "go"
    refine al fun p hp => ?_
    have npb : p ≠ b := b1.ne hp
    have hp0 : H p = none := s1.free (by simpa using npb) hp
    walk_at "go"
    refine lp_it walk_range (fun i σ' H' => ∃ (names : List Str) (u v : Option V), σ' = [some (.ref b), some (.int (many : Nat)), some (.int fs), some (.ref p), u, v, none] ∧ Sx [b] H H' ∧ Bag H' b ∧ H' p = some (.lst (names.map V.str)) ∧ names.length = i ∧ NamesOk fs.toNat names) ?_ (fun _ _ _ _ _ => trivial) ?_ ?_
    · exact ⟨[], none, none, rfl, s1.new hp, b1.new hp, upd_same, rfl, NamesOk.nil _⟩
    · rintro i x σ' H' H2 hi ⟨names, u, v, rfl, s2, b2, hp2, hl, ok⟩ ⟨rfl, rfl⟩
      walk_at "go"
      refine al fun q hq => ?_
      have nqb : q ≠ b := b2.ne hq
      have nqp : q ≠ p := (ne_of_none hp2 hq).symm
      walk_at "go"
      refine ⟨b, q, _, rfl, b2.new hq, upd_same, nqb, by decide, by decide, fun w H3 hw s3 b3 => ?_⟩
      obtain ⟨n, rfl, n0, n7⟩ : ∃ n : Int, w = .int n ∧ 0 ≤ n ∧ n ≤ 7 := by
        simp only [List.mem_cons, List.not_mem_nil, or_false] at hw
        rcases hw with rfl | rfl | rfl | rfl | rfl <;> exact ⟨_, rfl, by decide, by decide⟩
      have hp3 : H3 p = some (.lst (names.map V.str)) := s3.get1 npb (by rw [upd_ne nqp.symm]; exact hp2)
      have s4 : Sx [b] H H3 := Sx.trans (s2.new hq) s3
      clear s3
      walk_at "go"
      intro D hD
      have nDb : D ≠ b := b3.ne hD
      have nDp : D ≠ p := (ne_of_none hp3 hD).symm
      have hD0 : H D = none := s4.free (by simpa using nDb) hD
      refine lc_by walk_range (fun j H' => ∃ ls : List Str, H' D = some (.lst (ls.map V.str)) ∧ ls.length = j ∧ Lets ls ∧ Sx [b] H H' ∧ Bag H' b ∧ H' p = some (.lst (names.map V.str))) ?_ (fun _ _ _ _ => trivial) ?_ ?_
      · exact ⟨[], upd_same, rfl, (fun t ht => by simp at ht), s4.new hD, b3.new hD, by walk_at "hp"⟩
      · rintro j x H5 H6 hj ⟨ls, hl1, hl2, hl3, s5, b5, hp5⟩ ⟨rfl, rfl⟩
        walk_at "go"
        refine ⟨rfl, ?_⟩
        walk_at "go"
        refine ⟨b, 26, rfl, b5, by decide, by decide, fun d H7 d0 d1 s7 b7 => ?_⟩
        refine g_ix_s (by decide +kernel) (atI_abc d0 d1) ?_
        refine ⟨_, s7.get1 nDb hl1, by rw [sizeLine_eq]; simp; omega, ls ++ [⟨#[97 + d.toNat]⟩], by rw [upd_same, List.map_append]; rfl, by simp [hl2], lets_snoc hl3 (by omega) (by omega), ?_, b7.put nDb.symm, ?_⟩
        · exact (s5.trans s7).mut hD0
        · rw [upd_ne nDp.symm]; exact s7.get1 npb hp5
      · rintro H5 ⟨ls, hl1, hl2, hl3, s5, b5, hp5⟩
        walk_at "go"
        obtain ⟨c, hc, hc1, hc2⟩ := abc14_at ((fs.toNat + i) % 14) (Nat.mod_lt _ (by decide))
        have e14 := atI_of hc
        rw [show (((fs.toNat + i) % 14 : Nat) : Int) = (fs + (0 + (i : Int))) % 14 by omega] at e14
        refine g_ix_s (by decide +kernel) e14 ?_
        walk_at "go"
        obtain ⟨j1, j2⟩ := lets_join hl3
        have jl := sum_len_le (lets_len hl3)
        have jt : (Txt.join "" ls).length = ls.length := by rw [show Txt.join "" ls = Str.join "" ls from StrLaws.glued_eq_join _ _, ← j1]; simp [Str.length]
        refine g_join (ys := ls) (Or.inl (SqL.of hl1)) (by rw [show (("" : Str)).length = 0 from rfl]; omega) ?_
        refine g_add_s (by rw [jt, sizeLine_eq, show (⟨#[c]⟩ : Str).length = 1 from rfl]; omega) ?_
        walk_at "go"
        refine ⟨names ++ [⟨#[c]⟩ ++ Txt.join "" ls], _, _, rfl, s5.mut hp0, b5.put npb.symm, by rw [upd_same, List.map_append]; rfl, by simp [hl], ok.snoc ⟨c, (Str.join "" ls).cps.toList, ?_, by rw [hl]; exact hc, by rw [j1]; omega, j2⟩⟩
        rw [Str.cps_append, show Txt.join "" ls = Str.join "" ls from StrLaws.glued_eq_join _ _]
        simp
    · rintro σ' H' ⟨names, u, v, rfl, s2, b2, hp2, hl, ok⟩
      walk_at "go"
      exact k p fs.toNat names H' s2 b2 hp0 hp2 (by simpa using hl) ok
end
section
variable {P : Program} {w : World} {K : PySem.W.Frag} {mg : Str → Option Value} {base : Heap}
theorem ok_sum_of {f : Addr} {fd : FuncData} (F : FnP K "sum_of" "sum_of" s_sum_of f fd) (T : Txt K mg)   : FnOk P w K mg base (L2.CX P w) 1 f fd ["terms", "values"] (sp_sum_of K) := by
  refine F.ok sc_sum_of (fun vs H Q E h => ?_) (fun cdv A outer s H vs Q E hr h => ?_)
  · obtain ⟨p, d, ts, kvs, val, rfl, _⟩ := h
    rfl
  · have nd := sc_sum_of.nd
    have tk := takes_of (E := E) (X := (cxOf (L2.CX P w) P w K mg base ["terms", "values", "total", "factor", "term"] "sum_of" (defScope s_sum_of) f cdv A outer s H E)) rfl rfl rfl rfl
    have po : PassesOwn (model P w) (cxOf (L2.CX P w) P w K mg base ["terms", "values", "total", "factor", "term"] "sum_of" (defScope s_sum_of) f cdv A outer s H E).A (cxOf (L2.CX P w) P w K mg base ["terms", "values", "total", "factor", "term"] "sum_of" (defScope s_sum_of) f cdv A outer s H E).env (cxOf (L2.CX P w) P w K mg base ["terms", "values", "total", "factor", "term"] "sum_of" (defScope s_sum_of) f cdv A outer s H E).xe := passes_of (X := (cxOf (L2.CX P w) P w K mg base ["terms", "values", "total", "factor", "term"] "sum_of" (defScope s_sum_of) f cdv A outer s H E)) rfl
    obtain ⟨p, d, ts, kvs, val, rfl, ⟨as, hp, hpa⟩, hd, hv, k⟩ := h
    refine ⟨_, (pss_cons (q_set 2 nd pe_int) (pss_cons (ps_for po rfl (q_list K (pv 0)) (q_gtup K 2 (pgs_cons (q_name 3 nd) (pgs_cons (q_name 4 nd) pgs_nil))) (pss_one (ps_if (q_truth K (pe_callB (cl_isinstance K) (by rfl) T.n_isinstance bt_isinstance (pa_cons (pv 4) (pa_cons (q_bltn T.n_str bt_str) pa_nil)))) (pss_one (q_aug 2 nd (pe_op op_dMul (pv 3) (pe_dget (units1 hr.units) (pv 1) (pv 4) (fun _ _ => rfl))) ip_add)) (pss_one (q_aug 2 nd (pe_op op_dMul (pv 3) (pv 4)) ip_add))))) (pss_one (ps_ret (pv 2))))), ?_⟩
    refine g_start (σ' := some _ :: some _ :: none :: none :: none :: []) rfl ?_
    walk_at "go"
    refine lp_it (walk_list (xs := as.map V.ref)) (fun i σ' H' => ∃ (u v : Option V), σ' = [some (.ref p), some (.ref d), some (.int (sumV val (ts.take i))), u, v] ∧ H' = H) ⟨none, none, rfl, rfl⟩ (fun i σ' H' _ h => by
      obtain ⟨u, v, _, rfl⟩ := h
      exact SqL.of hp) ?_ ?_
    · rintro i x σ' H1 H2 hi ⟨u, v, rfl, rfl⟩ ⟨rfl, hx⟩
      obtain ⟨a, ha, rfl⟩ : ∃ a, as[i]? = some a ∧ x = .ref a := by
        rw [List.getElem?_map] at hx
        cases e : as[i]? with
        | none => rw [e] at hx; cases hx
        | some a => rw [e] at hx; cases hx; exact ⟨a, rfl, rfl⟩
      obtain ⟨⟨f, t⟩, ht, hat⟩ := paired_at hpa ha
      have hat : H2 a = some (.tup [.int f, t.v]) := hat
      obtain ⟨hf, hs⟩ := hv _ (List.mem_of_getElem? ht)
      have hnext : sumV val (ts.take (i + 1)) = sumV val (ts.take i) + f * tmV val t := by
        unfold sumV
        rw [List.take_succ, ht]
        simp
      rw [hnext]
      have hm : ∀ j : Int, CMul f j ∨ CMulW f j := fun j => .inl (.inl (by rcases hf with h | h <;> (have h : f = _ := h; omega)))
      cases t with
      | num n =>
        have hat : H2 a = some (.tup [.int f, .int n]) := hat
        walk_at "go"
        refine g_isi (b := false) (.ty _) (.base (.int _)) (by rfl) ?_
        walk_at "go"
        exact ⟨_, _, rfl, rfl⟩
      | nam z =>
        have hz := hs z rfl
        have hat : H2 a = some (.tup [.int f, .str z]) := hat
        walk_at "go"
        refine g_isi (b := true) (.ty _) (.base (.str _)) (by rfl) ?_
        walk_at "go"
        exact ⟨_, _, rfl, rfl⟩
    · rintro σ' H1 ⟨u, v, rfl, rfl⟩
      walk_at "go"
      rw [List.length_map, List.take_of_length_le (by rw [← Paired.length hpa]; exact Nat.le_refl _)]
      exact k
end
section
variable {P : Program} {w : World} {K : PySem.W.Frag} {mg : Str → Option Value} {base : Heap}
theorem ok_law_terms {f : Addr} {fd : FuncData} (F : FnP K "_law_terms" "_law_terms" s_law_terms f fd) (T : Txt K mg) (C_law_of : Cal P w K mg base 2 "_law_of" ["_law_bag", "_law_some"] (sp_law_of K)) (C_law_take : Cal P w K mg base 1 "_law_take" ["_law_bag", "_law_many"] (sp_law_take K))  : FnOk P w K mg base (L2.CX P w) 3 f fd ["_law_bag", "_law_names_here", "_law_many"] (sp_law_terms K) := by
  refine F.ok sc_law_terms (fun vs H Q E h => ?_) (fun cdv A outer s H vs Q E hr h => ?_)
  · obtain ⟨W, b, q, names, many, rfl, _⟩ := h
    rfl
  · have nd := sc_law_terms.nd
    have tk := takes_of (E := E) (X := (cxOf (L2.CX P w) P w K mg base ["_law_bag", "_law_names_here", "_law_many", "_law_terms_here", "_law_turn", "_law_thing"] "_law_terms" (defScope s_law_terms) f cdv A outer s H E)) rfl rfl rfl rfl
    have po : PassesOwn (model P w) (cxOf (L2.CX P w) P w K mg base ["_law_bag", "_law_names_here", "_law_many", "_law_terms_here", "_law_turn", "_law_thing"] "_law_terms" (defScope s_law_terms) f cdv A outer s H E).A (cxOf (L2.CX P w) P w K mg base ["_law_bag", "_law_names_here", "_law_many", "_law_terms_here", "_law_turn", "_law_thing"] "_law_terms" (defScope s_law_terms) f cdv A outer s H E).env (cxOf (L2.CX P w) P w K mg base ["_law_bag", "_law_names_here", "_law_many", "_law_terms_here", "_law_turn", "_law_thing"] "_law_terms" (defScope s_law_terms) f cdv A outer s H E).xe := passes_of (X := (cxOf (L2.CX P w) P w K mg base ["_law_bag", "_law_names_here", "_law_many", "_law_terms_here", "_law_turn", "_law_thing"] "_law_terms" (defScope s_law_terms) f cdv A outer s H E)) rfl
    obtain ⟨W, b, q, names, many, rfl, hb, hbW, hw, dq, hnl, hm0, hm5, k⟩ := h
    refine ⟨_, (pss_cons (q_set 3 nd (pe_lst pa_nil)) (pss_cons (ps_for po rfl (pi_range1 rfl T.n_range (pa_cons (pe_op op_dAdd pe_int (q_call C_law_take tk (hr.mono (by decide)) (pa_cons (pv 0) (pa_cons (pv 2) pa_nil)))) pa_nil)) (q_name 4 nd) (pss_cons (q_set 5 nd (q_call C_law_of tk (hr.mono (by decide)) (pa_cons (pv 0) (pa_cons (pe_op op_dAdd (pe_op op_dAdd (pe_lst (pa_cons pe_int (pa_cons pe_int (pa_cons pe_int (pa_cons pe_int (pa_cons (q_call C_law_take tk (hr.mono (by decide)) (pa_cons (pv 0) (pa_cons pe_int pa_nil))) pa_nil)))))) (pv 1)) (pv 1)) pa_nil)))) (pss_one (ps_expr (q_bm K PySem.F.plainAttrs_list PySem.F.slot_list_append PySem.F.type_list_append m_append (pv 3) (pa_cons (pe_tup (pa_cons (pe_ifExp (pt_cmpR (op_dEq K hr.units) (pv 4) pe_int (nomark _)) pe_str (q_call C_law_of tk (hr.mono (by decide)) (pa_cons (pv 0) (pa_cons (pe_lst (pa_cons pe_str (pa_cons pe_str pa_nil))) pa_nil)))) (pa_cons (pv 5) pa_nil))) pa_nil)))))) (pss_one (ps_ret (pv 3))))), ?_⟩
    refine g_start (σ' := some _ :: some _ :: some _ :: none :: none :: none :: []) rfl ?_
    walk_at "go"
    refine al fun p hp => ?_
    generalize hH1 : upd H p _ = H1
    obtain ⟨e1, bp⟩ := new_b (W := W) hH1 hp (by walk_at "wl")
    clear hH1
    have dq0 := dq.more hp
    walk_at "go"
    refine call_take (by walk_at "bag") (by omega) (by omega) fun d H2 d0 d1 e2 hb2 => ?_
    walk_at "go"
    have nbp : b ≠ p := fun z => hw b hbW (by rw [z]; exact hp)
    refine lp_it walk_range (fun i σ' H' => ∃ (ts : Terms) (u v : Option V), σ' = [some (.ref b), some (.ref q), some (.int (many : Nat)), some (.ref p), u, v] ∧ Ed [b] H H' ∧ Bag H' b ∧ Bld W H' p (ts.map termD) ∧ ts.length = i ∧ (∀ t ∈ ts, TmW names t.2 ∧ (t.1 = 1 ∨ t.1 = -1)) ∧ ∀ t ∈ ts.head?, t.1 = 1) ⟨[], _, _, rfl, by walk_at "ed", hb2, by walk_at "bld", rfl, fun t ht => absurd ht List.not_mem_nil, fun t ht => by cases ht⟩ (fun _ _ _ _ _ => trivial) ?_ ?_
    · rintro i x σ' H3 H4 hi ⟨ts, u, v, rfl, e3, hb3, bp3, htl, htk, hth⟩ ⟨rfl, rfl⟩
      have w3 : Wl (p :: W) H4 := by
        refine Wl.cons' bp3.alive (hw.ed e3)
      have hbp : b ∈ p :: W := List.mem_cons_of_mem _ hbW
      have dq3 : Df (p :: W) H4 (.ref q) (.list (names.map PyData.str)) := dq0.ed e3 (sub1 hbp)
      clear e1 e2 bp
      walk_at "go"
      refine call_take hb3 (by decide) (by decide) fun n H5 n0 n1 e5 hb5 => ?_
      have w5 := w3.ed e5
      walk_at "go"
      refine al fun l1 hl1 => ?_
      generalize hH6 : upd H5 l1 _ = H6
      obtain ⟨e6, dl1⟩ := new_l (W := (p :: W)) hH6 hl1 (by walk_at "dfs") (by walk_at "wl")
      clear hH6
      walk_at "go"
      refine g_addd dl1 (by walk_at "df") (w5.ed e6) (by rw [List.length_map, sizeLine_eq]; simp only [List.length_cons, List.length_nil]; omega) fun l2 H7 hl2 e7 dl2 => ?_
      walk_at "go"
      refine g_addd dl2 (by walk_at "df") ((w5.ed e6).ed e7) (by rw [List.length_append, List.length_map, sizeLine_eq]; simp only [List.length_cons, List.length_nil]; omega) fun l3 H8 hl3 e8 dl3 => ?_
      walk_at "go"
      refine call_of (by walk_at "bag") dl3 hbp (by simp) (by simp only [List.length_append, List.length_map, List.length_cons, List.length_nil]; omega) fun v1 d1 H9 hd e9 hb9 dv => ?_
      obtain ⟨tm, rfl, htm⟩ : ∃ tm, d1 = tmD tm ∧ TmW names tm := by
        simp only [List.mem_append, List.mem_cons, List.not_mem_nil, or_false, List.mem_map] at hd
        rcases hd with ((rfl | rfl | rfl | rfl | rfl) | ⟨s, hs, rfl⟩) | ⟨s, hs, rfl⟩
        · exact ⟨.num 0, rfl, by decide, by decide⟩
        · exact ⟨.num 1, rfl, by decide, by decide⟩
        · exact ⟨.num 2, rfl, by decide, by decide⟩
        · exact ⟨.num 3, rfl, by decide, by decide⟩
        · exact ⟨.num n, rfl, n0, n1⟩
        · exact ⟨.nam s, rfl, hs⟩
        · exact ⟨.nam s, rfl, hs⟩
      have w9 : Wl (p :: W) H9 := by walk_at "wl"
      have bp9 : Bld W H9 p (ts.map termD) := by walk_at "bld"
      have e39 : Ed [b] H H9 := by walk_at "ed"
      clear e5 e6 e7 e8 e9 dl1 dl2 dl3 e3
      walk_at "go"
      have hi6 : i < 6 := by omega
      refine g_iteD (fun hz => ?_) (fun hz => ?_)
      · walk_at "go"
        refine al fun t ht => ?_
        generalize hH10 : upd H9 t _ = H10
        obtain ⟨e10, dt⟩ := new_t (W := (p :: W)) hH10 ht (by walk_at "dfs") (by walk_at "wl")
        clear hH10
        walk_at "go"
        refine g_bap (by walk_at "bld") dt (by rw [List.length_map, sizeLine_eq]; omega) fun HY eY bY => ?_
        refine ⟨ts ++ [(1, tm)], _, _, rfl, by walk_at "ed", by walk_at "bag", by rw [List.map_append]; exact bY, by simp [htl], fun t ht => ?_, fun t ht => ?_⟩
        · rcases List.mem_append.mp ht with ht | ht
          · exact htk t ht
          · rw [List.mem_singleton.mp ht]; exact ⟨htm, .inl rfl⟩
        · cases ts with
          | nil => cases ht; rfl
          | cons t0 r => exact hth t ht
      · walk_at "go"
        refine al fun ls hls => ?_
        generalize hH10 : upd H9 ls _ = H10
        obtain ⟨e10, dls⟩ := new_l (W := (p :: W)) hH10 hls (by walk_at "dfs") (by walk_at "wl")
        clear hH10
        walk_at "go"
        refine call_ofC (by walk_at "bag") dls hbp fun v2 d2 H11 hd2 e11 hb11 dv2 => ?_
        obtain ⟨g, rfl, hg⟩ : ∃ g : Int, d2 = .str (opT g) ∧ (g = 1 ∨ g = -1) := by
          simp only [List.mem_cons, List.not_mem_nil, or_false] at hd2
          rcases hd2 with rfl | rfl
          · exact ⟨1, rfl, .inl rfl⟩
          · exact ⟨-1, rfl, .inr rfl⟩
        obtain rfl := dv2.isStr
        walk_at "go"
        refine al fun t ht => ?_
        generalize hH12 : upd H11 t _ = H12
        obtain ⟨e12, dt⟩ := new_t (W := (p :: W)) hH12 ht (by walk_at "dfs") (by walk_at "wl")
        clear hH12
        walk_at "go"
        refine g_bap (by walk_at "bld") dt (by rw [List.length_map, sizeLine_eq]; omega) fun HY eY bY => ?_
        refine ⟨ts ++ [(g, tm)], _, _, rfl, by walk_at "ed", by walk_at "bag", by rw [List.map_append]; exact bY, by simp [htl], fun t ht => ?_, fun t ht => ?_⟩
        · rcases List.mem_append.mp ht with ht | ht
          · exact htk t ht
          · rw [List.mem_singleton.mp ht]; exact ⟨htm, hg⟩
        · cases ts with
          | nil => exfalso; simp at htl; omega
          | cons t0 r => exact hth t ht
    · rintro σ' H3 ⟨ts, u, v, rfl, e3, hb3, bp3, htl, htk, hth⟩
      walk_at "go"
      refine k p ts H3 hp e3 hb3 bp3.done ⟨fun z => ?_, by omega, htk, hth⟩
      rw [z] at htl
      simp at htl
      omega
end
section
variable {P : Program} {w : World} {K : PySem.W.Frag} {mg : Str → Option Value} {base : Heap}
theorem ok_law_sum_text {f : Addr} {fd : FuncData} (F : FnP K "_law_sum_text" "_law_sum_text" s_law_sum_text f fd) (T : Txt K mg)   : FnOk P w K mg base (L2.CX P w) 1 f fd ["_law_terms_here"] (sp_law_sum_text K) := by
  refine F.ok sc_law_sum_text (fun vs H Q E h => ?_) (fun cdv A outer s H vs Q E hr h => ?_)
  · obtain ⟨W, p, ts, rfl, _⟩ := h
    rfl
  · have nd := sc_law_sum_text.nd
    have tk := takes_of (E := E) (X := (cxOf (L2.CX P w) P w K mg base ["_law_terms_here", "_law_k", "_law_sign", "_law_thing"] "_law_sum_text" (defScope s_law_sum_text) f cdv A outer s H E)) rfl rfl rfl rfl
    have po : PassesOwn (model P w) (cxOf (L2.CX P w) P w K mg base ["_law_terms_here", "_law_k", "_law_sign", "_law_thing"] "_law_sum_text" (defScope s_law_sum_text) f cdv A outer s H E).A (cxOf (L2.CX P w) P w K mg base ["_law_terms_here", "_law_k", "_law_sign", "_law_thing"] "_law_sum_text" (defScope s_law_sum_text) f cdv A outer s H E).env (cxOf (L2.CX P w) P w K mg base ["_law_terms_here", "_law_k", "_law_sign", "_law_thing"] "_law_sum_text" (defScope s_law_sum_text) f cdv A outer s H E).xe := passes_of (X := (cxOf (L2.CX P w) P w K mg base ["_law_terms_here", "_law_k", "_law_sign", "_law_thing"] "_law_sum_text" (defScope s_law_sum_text) f cdv A outer s H E)) rfl
    obtain ⟨W, p, ts, rfl, dp, hw, hl, hts, k⟩ := h
    refine ⟨_, (pss_one (ps_ret (q_bm K PySem.F.plainAttrs_str PySem.F.slot_str_join PySem.F.type_str_join (m_join K) pe_str (pa_cons (pe_lc (own := [("_law_k", 1), ("_law_sign", 2), ("_law_thing", 3)]) (tt := tYes) rfl nd (q_enum K T.n_enumerate (pa_cons (pv 0) pa_nil)) (blkOk_by (own := [("_law_k", 1), ("_law_sign", 2), ("_law_thing", 3)]) (N := ["_law_terms_here", "_law_k", "_law_sign", "_law_thing"]) (sc := defScope s_law_sum_text) (by decide +kernel)) (fun _ _ _ _ _ => (q_gtup K 2 (pgs_cons (q_name 1 nd) (pgs_cons (q_gtup K 2 (pgs_cons (q_name 2 nd) (pgs_cons (q_name 3 nd) pgs_nil))) pgs_nil)))) (fun _ _ _ _ _ => pts_nil) (fun _ _ _ _ _ => (pe_op op_dAdd (pe_ifExp (pt_cmpR (op_dEq K hr.units) (pv 1) pe_int (nomark _)) pe_str (pe_op op_dAdd (pv 2) pe_str)) (pe_callTy cl_str (by rfl) T.n_str bt_str (pa_cons (pv 3) pa_nil))))) pa_nil)))), ?_⟩
    refine g_start (σ' := some _ :: none :: none :: none :: []) rfl ?_
    walk_at "go"
    intro D hD
    refine lc_en (by walk_at "wipe") (U := []) (W := W) dp (by rw [List.length_map, sizeLine_eq]; omega) hD hw no0 (fun i acc => acc = ((ts.take i).mapIdx pcT).map PyData.str) (fun _ => True) (fun _ _ _ _ => trivial) (fun _ _ _ _ => trivial) trivial rfl ?_ ?_
    · rintro i x t d acc H1 R N hd hacc _ e1 w1 ht hx yes no
      obtain ⟨τ, hτ, rfl⟩ := at_map hd
      obtain ⟨pa, rfl⟩ := Df.isRefT hx
      have hs := hts τ (List.mem_of_getElem? hτ)
      have hsl := tok_len hs
      have hol := op_len (f := τ.1)
      walk_at "go"
      refine g_gtupd hx rfl fun xs hxs => ?_
      obtain ⟨v, rfl, hv⟩ := cells2 hxs
      walk_at "go"
      refine ⟨rfl, ?_⟩
      walk_at "go"
      refine g_iteD (fun hz => ?_) (fun hz => ?_)
      · walk_at "go"
        refine g_strT hv hs ?_
        refine g_add_s (by rw [sizeLine_eq, show (("" : Str)).length = 0 from rfl]; omega) ?_
        refine yes _ _ _ Ed.refl (.str _) trivial ?_
        rw [hacc, mapIdx_take hτ, List.map_append]
        obtain rfl : i = 0 := by omega
        rfl
      · walk_at "go"
        refine g_add_s (by rw [sizeLine_eq, hol]; decide) ?_
        walk_at "go"
        refine g_strT hv hs ?_
        refine g_add_s (by rw [sizeLine_eq, Str.length_append, hol, show ((" " : Str)).length = 1 from rfl]; omega) ?_
        refine yes _ _ _ Ed.refl (.str _) trivial ?_
        rw [hacc, mapIdx_take hτ, List.map_append]
        have e : pcT i τ = opT τ.1 ++ " " ++ τ.2.tok := by unfold pcT; rw [if_neg (by omega)]
        rw [e]
        rfl
    · rintro acc H1 hacc _ e1 dD _
      rw [take_all rfl] at hacc
      subst hacc
      walk_at "go"
      have hll : ∀ t ∈ ts.mapIdx pcT, t.length ≤ 10 := fun t ht => by
        obtain ⟨i, hi, rfl⟩ := List.mem_mapIdx.mp ht
        have h1 := tok_len (hts _ (List.getElem_mem hi))
        have h2 := op_len (f := (ts[i]).1)
        unfold pcT
        rw [Str.length_append]
        split
        · rw [show (("" : Str)).length = 0 from rfl]; omega
        · rw [Str.length_append, h2, show ((" " : Str)).length = 1 from rfl]; omega
      have h1 := sum_len_le hll
      rw [List.length_mapIdx] at h1
      refine g_joind dD (by rw [List.length_mapIdx, show ((" " : Str)).length = 1 from rfl]; omega) ?_
      rw [join_txt, join_sum]
      exact k H1 e1
end
section
variable {P : Program} {w : World} {K : PySem.W.Frag} {mg : Str → Option Value} {base : Heap}
theorem ok_law_value {f : Addr} {fd : FuncData} (F : FnP K "_law_value" "_law_value" s_law_value f fd) (T : Txt K mg)   : FnOk P w K mg base (L2.CX P w) 1 f fd ["_law_terms_here", "_law_values_here"] (sp_law_value K) := by
  refine F.ok sc_law_value (fun vs H Q E h => ?_) (fun cdv A outer s H vs Q E hr h => ?_)
  · obtain ⟨W, p, d, ts, kvs, val, rfl, _⟩ := h
    rfl
  · have nd := sc_law_value.nd
    have tk := takes_of (E := E) (X := (cxOf (L2.CX P w) P w K mg base ["_law_terms_here", "_law_values_here", "_law_total", "_law_sign", "_law_thing", "_law_each"] "_law_value" (defScope s_law_value) f cdv A outer s H E)) rfl rfl rfl rfl
    have po : PassesOwn (model P w) (cxOf (L2.CX P w) P w K mg base ["_law_terms_here", "_law_values_here", "_law_total", "_law_sign", "_law_thing", "_law_each"] "_law_value" (defScope s_law_value) f cdv A outer s H E).A (cxOf (L2.CX P w) P w K mg base ["_law_terms_here", "_law_values_here", "_law_total", "_law_sign", "_law_thing", "_law_each"] "_law_value" (defScope s_law_value) f cdv A outer s H E).env (cxOf (L2.CX P w) P w K mg base ["_law_terms_here", "_law_values_here", "_law_total", "_law_sign", "_law_thing", "_law_each"] "_law_value" (defScope s_law_value) f cdv A outer s H E).xe := passes_of (X := (cxOf (L2.CX P w) P w K mg base ["_law_terms_here", "_law_values_here", "_law_total", "_law_sign", "_law_thing", "_law_each"] "_law_value" (defScope s_law_value) f cdv A outer s H E)) rfl
    obtain ⟨W, p, d, ts, kvs, val, rfl, dp, hd, hv, k⟩ := h
    refine ⟨_, (pss_cons (q_set 2 nd pe_int) (pss_cons (ps_for po rfl (q_list K (pv 0)) (q_gtup K 2 (pgs_cons (q_name 3 nd) (pgs_cons (q_name 4 nd) pgs_nil))) (pss_cons (q_set 5 nd (pe_ifExp (q_truth K (pe_callB (cl_isinstance K) (by rfl) T.n_isinstance bt_isinstance (pa_cons (pv 4) (pa_cons (q_bltn T.n_str bt_str) pa_nil)))) (pe_dget (units1 hr.units) (pv 1) (pv 4) (fun _ _ => rfl)) (pv 4))) (pss_one (q_set 2 nd (pe_ifExp (pt_cmpR (op_dEq K hr.units) (pv 3) pe_str (nomark _)) (pe_op op_dAdd (pv 2) (pv 5)) (pe_op op_dSub (pv 2) (pv 5))))))) (pss_one (ps_ret (pv 2))))), ?_⟩
    refine g_start (σ' := some _ :: some _ :: none :: none :: none :: none :: []) rfl ?_
    walk_at "go"
    refine lp_df dp (fun i σ' H' => ∃ (u v w : Option V), σ' = [some (.ref p), some (.ref d), some (.int (sumV val (ts.take i))), u, v, w] ∧ H' = H) ⟨_, _, _, rfl, rfl⟩ (fun i σ' H' _ h => by
      obtain ⟨u, v, w, _, rfl⟩ := h
      exact Ed.refl) ?_ ?_
    · rintro i x dd σ' H1 hdd ⟨u, v, w, rfl, rfl⟩ hx
      obtain ⟨⟨f, t⟩, hτ, rfl⟩ := at_map hdd
      obtain ⟨pa, rfl⟩ := Df.isRefT hx
      obtain ⟨hf, hs⟩ := hv _ (List.mem_of_getElem? hτ)
      have hf : f = 1 ∨ f = -1 := hf
      have hnext : sumV val (ts.take (i + 1)) = sumV val (ts.take i) + f * tmV val t := by
        unfold sumV
        rw [List.take_succ, hτ]
        simp
      walk_at "go"
      refine g_gtupd hx rfl fun xs hxs => ?_
      obtain ⟨v, rfl, hv⟩ := cells2 hxs
      have hv : Df W H1 v (tmD t) := hv
      walk_at "go"
      have e1 : opT 1 = "+" := by decide +kernel
      have e2 : opT (-1) ≠ "+" := by decide +kernel
      cases t with
      | num n =>
        have hv : Df W H1 v (.int n) := hv
        obtain rfl := hv.isInt
        refine g_isi (b := false) (.ty _) (.base (.int _)) (by rfl) ?_
        walk_at "go"
        rcases hf with rfl | rfl
        · refine g_iteD (fun _ => ?_) (fun z => absurd e1 z)
          walk_at "go"
          exact ⟨_, _, _, by rw [hnext, show sumV val (ts.take i) + 1 * tmV val (.num n) = sumV val (ts.take i) + n by show _ + 1 * n = _; omega], rfl⟩
        · refine g_iteD (fun z => absurd z e2) (fun _ => ?_)
          walk_at "go"
          exact ⟨_, _, _, by rw [hnext, show sumV val (ts.take i) + -1 * tmV val (.num n) = sumV val (ts.take i) - n by show _ + -1 * n = _; omega], rfl⟩
      | nam s =>
        have hv : Df W H1 v (.str s) := hv
        obtain rfl := hv.isStr
        have hz := hs s rfl
        refine g_isi (b := true) (.ty _) (.base (.str _)) (by rfl) ?_
        walk_at "go"
        rcases hf with rfl | rfl
        · refine g_iteD (fun _ => ?_) (fun z => absurd e1 z)
          walk_at "go"
          exact ⟨_, _, _, by rw [hnext, show sumV val (ts.take i) + 1 * tmV val (.nam s) = sumV val (ts.take i) + val s by show _ + 1 * val s = _; omega], rfl⟩
        · refine g_iteD (fun z => absurd z e2) (fun _ => ?_)
          walk_at "go"
          exact ⟨_, _, _, by rw [hnext, show sumV val (ts.take i) + -1 * tmV val (.nam s) = sumV val (ts.take i) - val s by show _ + -1 * val s = _; omega], rfl⟩
    · rintro σ' H1 ⟨u, v, w, rfl, rfl⟩
      walk_at "go"
      rw [take_all rfl]
      exact k
end
section
variable {P : Program} {w : World} {K : PySem.W.Frag} {mg : Str → Option Value} {base : Heap}
theorem ok_Sum___str__ {f : Addr} {fd : FuncData} (F : FnP K "__str__" "Sum.__str__" s_Sum___str__ f fd) (T : Txt K mg)   : FnOk P w K mg base (L2.CX P w) 1 f fd ["self"] (sp_Sum___str__ K) := by
  refine F.ok sc_Sum___str__ (fun vs H Q E h => ?_) (fun cdv A outer s H vs Q E hr h => ?_)
  · obtain ⟨x, ts, s, rfl, _⟩ := h
    rfl
  · have nd := sc_Sum___str__.nd
    have tk := takes_of (E := E) (X := (cxOf (L2.CX P w) P w K mg base ["self"] "Sum.__str__" (defScope s_Sum___str__) f cdv A outer s H E)) rfl rfl rfl rfl
    have po : PassesOwn (model P w) (cxOf (L2.CX P w) P w K mg base ["self"] "Sum.__str__" (defScope s_Sum___str__) f cdv A outer s H E).A (cxOf (L2.CX P w) P w K mg base ["self"] "Sum.__str__" (defScope s_Sum___str__) f cdv A outer s H E).env (cxOf (L2.CX P w) P w K mg base ["self"] "Sum.__str__" (defScope s_Sum___str__) f cdv A outer s H E).xe := passes_of (X := (cxOf (L2.CX P w) P w K mg base ["self"] "Sum.__str__" (defScope s_Sum___str__) f cdv A outer s H E)) rfl
    obtain ⟨x, ts, s, rfl, hx, k⟩ := h
    have cS := T.c_Sum
    have aT := T.a_Sum_terms
    have aS := T.a_Sum_shown
    obtain ⟨dx, l, hx, ht⟩ := hx
    refine ⟨_, (pss_one (ps_ret (pe_callTy cl_str (by rfl) T.n_str bt_str (pa_cons (q_fld K (pv 0)) pa_nil)))), ?_⟩
    refine g_start (σ' := some _ :: []) rfl ?_
    walk_at "go"
    exact k
end
section
variable {P : Program} {w : World} {K : PySem.W.Frag} {mg : Str → Option Value} {base : Heap}
theorem ok_Sum___call__ {f : Addr} {fd : FuncData} (F : FnP K "__call__" "Sum.__call__" s_Sum___call__ f fd) (T : Txt K mg) (C_sum_of : Cal P w K mg base 1 "sum_of" ["terms", "values"] (sp_sum_of K))  : FnOk P w K mg base (L2.CX P w) 2 f fd ["self", "values"] (sp_Sum___call__ K) := by
  refine F.ok sc_Sum___call__ (fun vs H Q E h => ?_) (fun cdv A outer s H vs Q E hr h => ?_)
  · obtain ⟨x, d, ts, s, kvs, val, rfl, _⟩ := h
    rfl
  · have nd := sc_Sum___call__.nd
    have tk := takes_of (E := E) (X := (cxOf (L2.CX P w) P w K mg base ["self", "values"] "Sum.__call__" (defScope s_Sum___call__) f cdv A outer s H E)) rfl rfl rfl rfl
    have po : PassesOwn (model P w) (cxOf (L2.CX P w) P w K mg base ["self", "values"] "Sum.__call__" (defScope s_Sum___call__) f cdv A outer s H E).A (cxOf (L2.CX P w) P w K mg base ["self", "values"] "Sum.__call__" (defScope s_Sum___call__) f cdv A outer s H E).env (cxOf (L2.CX P w) P w K mg base ["self", "values"] "Sum.__call__" (defScope s_Sum___call__) f cdv A outer s H E).xe := passes_of (X := (cxOf (L2.CX P w) P w K mg base ["self", "values"] "Sum.__call__" (defScope s_Sum___call__) f cdv A outer s H E)) rfl
    obtain ⟨x, d, ts, s, kvs, val, rfl, hx, hd, hv, k⟩ := h
    have cS := T.c_Sum
    have aT := T.a_Sum_terms
    have aS := T.a_Sum_shown
    obtain ⟨dx, l, hx, ht⟩ := hx
    refine ⟨_, (pss_one (ps_ret (q_call C_sum_of tk (hr.mono (by decide)) (pa_cons (q_fld K (pv 0)) (pa_cons (pv 1) pa_nil))))), ?_⟩
    refine g_start (σ' := some _ :: some _ :: []) rfl ?_
    walk_at "go"
    refine ⟨l, d, ts, kvs, val, rfl, ht, hd, hv, ?_⟩
    walk_at "go"
    exact k
end
section
variable {P : Program} {w : World} {K : PySem.W.Frag} {mg : Str → Option Value} {base : Heap}
theorem ok_law_integer {f : Addr} {fd : FuncData} (F : FnP K "_law_integer" "_law_integer" s_law_integer f fd) (T : Txt K mg)   : FnOk P w K mg base (L2.CX P w) 1 f fd ["_law_thing"] (sp_law_integer K) := by
  refine F.ok sc_law_integer (fun vs H Q E h => ?_) (fun cdv A outer s H vs Q E hr h => ?_)
  · obtain ⟨i, rfl, _⟩ := h
    rfl
  · have nd := sc_law_integer.nd
    have tk := takes_of (E := E) (X := (cxOf (L2.CX P w) P w K mg base ["_law_thing"] "_law_integer" (defScope s_law_integer) f cdv A outer s H E)) rfl rfl rfl rfl
    have po : PassesOwn (model P w) (cxOf (L2.CX P w) P w K mg base ["_law_thing"] "_law_integer" (defScope s_law_integer) f cdv A outer s H E).A (cxOf (L2.CX P w) P w K mg base ["_law_thing"] "_law_integer" (defScope s_law_integer) f cdv A outer s H E).env (cxOf (L2.CX P w) P w K mg base ["_law_thing"] "_law_integer" (defScope s_law_integer) f cdv A outer s H E).xe := passes_of (X := (cxOf (L2.CX P w) P w K mg base ["_law_thing"] "_law_integer" (defScope s_law_integer) f cdv A outer s H E)) rfl
    obtain ⟨i, rfl, k⟩ := h
    refine ⟨_, (pss_one (ps_ret (q_andT K (pe_callB (cl_isinstance K) (by rfl) T.n_isinstance bt_isinstance (pa_cons (pv 0) (pa_cons (q_bltn T.n_int bt_int) pa_nil))) (pe_one (q_notT K (pe_callB (cl_isinstance K) (by rfl) T.n_isinstance bt_isinstance (pa_cons (pv 0) (pa_cons (q_bltn T.n_bool bt_bool) pa_nil)))))))), ?_⟩
    refine g_start (σ' := some _ :: []) rfl ?_
    walk_at "go"
    refine g_isi (b := true) (.ty _) (.base (.int _)) (by rfl) ?_
    walk_at "go"
    refine g_isi (b := false) (.ty _) (.base (.int _)) (by rfl) ?_
    walk_at "go"
    exact k
end
section
variable {P : Program} {w : World} {K : PySem.W.Frag} {mg : Str → Option Value} {base : Heap}
theorem ok_Sum_mentions {f : Addr} {fd : FuncData} (F : FnP K "mentions" "Sum.mentions" s_Sum_mentions f fd) (T : Txt K mg)   : FnOk P w K mg base (L2.CX P w) 1 f fd ["self"] (sp_Sum_mentions K) := by
  refine F.ok sc_Sum_mentions (fun vs H Q E h => ?_) (fun cdv A outer s H vs Q E hr h => ?_)
  · obtain ⟨x, ts, s, rfl, _⟩ := h
    rfl
  · have nd := sc_Sum_mentions.nd
    have tk := takes_of (E := E) (X := (cxOf (L2.CX P w) P w K mg base ["self", "factor", "word"] "Sum.mentions" (defScope s_Sum_mentions) f cdv A outer s H E)) rfl rfl rfl rfl
    have po : PassesOwn (model P w) (cxOf (L2.CX P w) P w K mg base ["self", "factor", "word"] "Sum.mentions" (defScope s_Sum_mentions) f cdv A outer s H E).A (cxOf (L2.CX P w) P w K mg base ["self", "factor", "word"] "Sum.mentions" (defScope s_Sum_mentions) f cdv A outer s H E).env (cxOf (L2.CX P w) P w K mg base ["self", "factor", "word"] "Sum.mentions" (defScope s_Sum_mentions) f cdv A outer s H E).xe := passes_of (X := (cxOf (L2.CX P w) P w K mg base ["self", "factor", "word"] "Sum.mentions" (defScope s_Sum_mentions) f cdv A outer s H E)) rfl
    obtain ⟨x, ts, s, rfl, hx, hl, k⟩ := h
    have cS := T.c_Sum
    have aT := T.a_Sum_terms
    have aS := T.a_Sum_shown
    obtain ⟨dx, l, hx, as, hp, hpa⟩ := hx
    refine ⟨_, (pss_one (ps_ret (pe_callB (cl_sortTW w rfl) (by rfl) T.n_sorted bt_sorted (pa_cons (q_scT w (own := [("factor", 1), ("word", 2)]) rfl nd (q_list K (q_fld K (pv 0))) (blkOk_by (own := [("factor", 1), ("word", 2)]) (N := ["self", "factor", "word"]) (sc := defScope s_Sum_mentions) (by decide +kernel)) (fun _ _ _ _ _ => (q_gtup K 2 (pgs_cons (q_name 1 nd) (pgs_cons (q_name 2 nd) pgs_nil)))) (fun _ _ _ _ _ => (pts_one (q_truth K (pe_callB (cl_isinstance K) (by rfl) T.n_isinstance bt_isinstance (pa_cons (pv 2) (pa_cons (q_bltn T.n_str bt_str) pa_nil)))))) (fun _ _ _ _ _ => (pv 2))) pa_nil)))), ?_⟩
    refine g_start (σ' := some _ :: none :: none :: []) rfl ?_
    walk_at "go"
    refine g_scT ?_
    walk_at "go"
    intro D hD
    refine lp_scT (walk_list (xs := as.map V.ref)) (by walk_at "wipe") (fun i H' => ∃ S n, H' = upd H D (ObT w D (S, n)) ∧ n ≤ i ∧ ∀ k, S k = true ↔ ∃ t ∈ ts.take i, t.2 = Tm.nam k) ⟨fun _ => false, 0, rfl, Nat.le_refl _, fun k => by simp⟩ (fun i H' hi hh => ?_) ?_ ?_
    · obtain ⟨S, n, rfl, _⟩ := hh
      exact SqL.of (by rw [upd_ne (ne_of_none hp hD)]; exact hp)
    · rintro i x H1 H2 hi ⟨S, n, rfl, hn, hS⟩ ⟨rfl, hx⟩
      obtain ⟨a, ha, rfl⟩ : ∃ a, as[i]? = some a ∧ x = .ref a := by
        rw [List.getElem?_map] at hx
        cases e : as[i]? with
        | none => rw [e] at hx; cases hx
        | some a => rw [e] at hx; cases hx; exact ⟨a, rfl, rfl⟩
      obtain ⟨⟨f, t⟩, ht, hat⟩ := paired_at hpa ha
      have hat : H a = some (.tup [.int f, t.v]) := hat
      have hin : i < 64 := by
        have := (List.getElem?_eq_some_iff.mp ht).1
        omega
      have htk : ts.take (i + 1) = ts.take i ++ [(f, t)] := by rw [List.take_succ, ht]; rfl
      have hat2 : (upd H D (ObT w D (S, n))) a = some (.tup [.int f, t.v]) := by rw [upd_ne (ne_of_none hat hD)]; exact hat
      cases t with
      | num m =>
        have hat2 : (upd H D (ObT w D (S, n))) a = some (.tup [.int f, .int m]) := hat2
        walk_at "go"
        refine ⟨rfl, ?_⟩
        walk_at "go"
        refine g_isi (b := false) (.ty _) (.base (.int _)) (by rfl) ?_
        walk_at "go"
        refine ⟨S, n, rfl, by omega, fun k => ?_⟩
        rw [hS k, htk]
        constructor
        · rintro ⟨t, h1, h2⟩
          exact ⟨t, List.mem_append_left _ h1, h2⟩
        · rintro ⟨t, h1, h2⟩
          rcases List.mem_append.mp h1 with h1 | h1
          · exact ⟨t, h1, h2⟩
          · rw [List.mem_singleton.mp h1] at h2
            cases h2
      | nam z =>
        have hat2 : (upd H D (ObT w D (S, n))) a = some (.tup [.int f, .str z]) := hat2
        walk_at "go"
        refine ⟨rfl, ?_⟩
        walk_at "go"
        refine g_isi (b := true) (.ty _) (.base (.str _)) (by rfl) ?_
        walk_at "go"
        refine ⟨(S, n), _, upd_same, ⟨z, rfl, Nat.lt_of_le_of_lt (by omega : n + 1 ≤ 65) (by decide), rfl⟩, _, _, by rw [upd_upd], ?_, fun k => ?_⟩
        · split <;> omega
        · rw [Bool.or_eq_true, decide_eq_true_eq, hS k, htk]
          constructor
          · rintro (⟨t, h1, h2⟩ | rfl)
            · exact ⟨t, List.mem_append_left _ h1, h2⟩
            · exact ⟨_, List.mem_append_right _ (List.mem_singleton.mpr rfl), rfl⟩
          · rintro ⟨t, h1, h2⟩
            rcases List.mem_append.mp h1 with h1 | h1
            · exact .inl ⟨t, h1, h2⟩
            · rw [List.mem_singleton.mp h1] at h2
              cases h2
              exact .inr rfl
    · rintro H' ⟨S, n, rfl, hn, hS⟩
      walk_at "go"
      have hll : (as.map V.ref).length = ts.length := by rw [List.length_map]; exact Paired.length hpa
      refine ⟨D, S, n, rfl, upd_same, by omega, fun xs p h1 h2 h3 h4 hpn => ?_⟩
      have hpD : p ≠ D := fun z => by
        rw [z, upd_same] at hpn
        cases hpn
      refine k xs p _ ((Ed.new hD).tr (Ed.new hpn) no0) (by rw [upd_ne hpD] at hpn; exact hpn) h1 h2 (fun j => ?_) upd_same
      rw [h3 j, hS j, List.take_of_length_le (by rw [hll]; exact Nat.le_refl _)]
end
section
variable {P : Program} {w : World} {K : PySem.W.Frag} {mg : Str → Option Value} {base : Heap}
theorem ok_law_values {f : Addr} {fd : FuncData} (F : FnP K "_law_values" "_law_values" s_law_values f fd) (T : Txt K mg) (C_law_of : Cal P w K mg base 2 "_law_of" ["_law_bag", "_law_some"] (sp_law_of K)) (C_law_take : Cal P w K mg base 1 "_law_take" ["_law_bag", "_law_many"] (sp_law_take K))  : FnOk P w K mg base (L2.CX P w) 3 f fd ["_law_bag", "_law_names_here"] (sp_law_values K) := by
  refine F.ok sc_law_values (fun vs H Q E h => ?_) (fun cdv A outer s H vs Q E hr h => ?_)
  · obtain ⟨W, b, q, names, rfl, _⟩ := h
    rfl
  · have nd := sc_law_values.nd
    have tk := takes_of (E := E) (X := (cxOf (L2.CX P w) P w K mg base ["_law_bag", "_law_names_here", "_law_is_one", "_law_size", "_law_one", "_law_values_here", "_law_name", "_law_each"] "_law_values" (defScope s_law_values) f cdv A outer s H E)) rfl rfl rfl rfl
    have po : PassesOwn (model P w) (cxOf (L2.CX P w) P w K mg base ["_law_bag", "_law_names_here", "_law_is_one", "_law_size", "_law_one", "_law_values_here", "_law_name", "_law_each"] "_law_values" (defScope s_law_values) f cdv A outer s H E).A (cxOf (L2.CX P w) P w K mg base ["_law_bag", "_law_names_here", "_law_is_one", "_law_size", "_law_one", "_law_values_here", "_law_name", "_law_each"] "_law_values" (defScope s_law_values) f cdv A outer s H E).env (cxOf (L2.CX P w) P w K mg base ["_law_bag", "_law_names_here", "_law_is_one", "_law_size", "_law_one", "_law_values_here", "_law_name", "_law_each"] "_law_values" (defScope s_law_values) f cdv A outer s H E).xe := passes_of (X := (cxOf (L2.CX P w) P w K mg base ["_law_bag", "_law_names_here", "_law_is_one", "_law_size", "_law_one", "_law_values_here", "_law_name", "_law_each"] "_law_values" (defScope s_law_values) f cdv A outer s H E)) rfl
    obtain ⟨W, b, q, names, rfl, hb, hbW, hw, dq, hnl, nd0, k⟩ := h
    refine ⟨_, (pss_cons (q_set 2 nd (pe_cmpR (op_dEq K hr.units) (q_call C_law_take tk (hr.mono (by decide)) (pa_cons (pv 0) (pa_cons pe_int pa_nil))) pe_int (nomark _))) (pss_cons (q_set 3 nd (q_call C_law_of tk (hr.mono (by decide)) (pa_cons (pv 0) (pa_cons (pe_lst (pa_cons pe_int (pa_cons pe_int (pa_cons (pe_op op_dPow pe_int pe_int) (pa_cons (pe_op op_dPow pe_int pe_int) pa_nil))))) pa_nil)))) (pss_cons (q_set 4 nd (q_call C_law_take tk (hr.mono (by decide)) (pa_cons (pv 0) (pa_cons (pv 3) pa_nil)))) (pss_cons (q_set 5 nd pe_dnewK) (pss_cons (ps_for po rfl (q_list K (pv 1)) (q_name 6 nd) (pss_cut (q_set 7 nd (pe_ifExp (q_truth K (pv 2)) (pv 4) (q_call C_law_take tk (hr.mono (by decide)) (pa_cons (pv 0) (pa_cons (pv 3) pa_nil))))) (pss_one (ps_dput (units1 hr.units) (pv 5) (pv 6) (pe_ifExp (pt_cmpR (op_dEq K hr.units) (q_call C_law_take tk (hr.mono (by decide)) (pa_cons (pv 0) (pa_cons pe_int pa_nil))) pe_int (nomark _)) (pe_un un_neg (pv 7)) (pv 7)) rfl)))) (pss_one (ps_ret (pv 5)))))))), ?_⟩
    refine g_start (σ' := some _ :: some _ :: none :: none :: none :: none :: none :: none :: []) rfl ?_
    walk_at "go"
    refine call_take hb (by decide) (by decide) fun d0 H1 d00 d01 e1 hb1 => ?_
    walk_at "go"
    refine al fun l1 hl1 => ?_
    generalize hH2 : upd H1 l1 _ = H2
    obtain ⟨e2, dl⟩ := new_l (W := W) hH2 hl1 (by walk_at "dfs") (by walk_at "wl")
    clear hH2
    walk_at "go"
    refine call_ofC (by walk_at "bag") dl hbW fun v dd H3 hd e3 hb3 dv => ?_
    obtain ⟨m, rfl, m0, m1⟩ : ∃ m : Int, dd = .int m ∧ 0 < m ∧ m ≤ 10 ^ 30 := by
      simp only [List.mem_cons, List.not_mem_nil, or_false] at hd
      rcases hd with rfl | rfl | rfl | rfl <;> exact ⟨_, rfl, by decide, by decide⟩
    obtain rfl := dv.isInt
    walk_at "go"
    refine call_take hb3 m0 (by omega) fun one H4 o0 o1 e4 hb4 => ?_
    walk_at "go"
    intro p hp
    generalize hG : upd H4 p _ = H5
    have rp : H5 p = some (.dK []) := by rw [← hG]; exact upd_same
    have e5 : Ed [] H4 H5 := by rw [← hG]; exact Ed.new hp
    clear hG
    have dq4 : Df W H4 (.ref q) (.list (names.map PyData.str)) := by walk_at "df"
    have w4 : Wl W H4 := by walk_at "wl"
    have e04 : Ed [b] H H4 := by walk_at "ed"
    have hp0 : H p = none := e04.free hp
    have hb5 : Bag H5 b := hb4.ed e5 List.not_mem_nil
    have nbp : b ≠ p := fun z => w4 b hbW (by rw [z]; exact hp)
    have dq5 : Df (p :: W) H5 (.ref q) (.list (names.map PyData.str)) := (dq4.more hp).ed e5 no0
    have w5 : Wl (p :: W) H5 := Wl.cons rp (w4.ed e5)
    clear e1 e2 e3 e4 dl dv hb1 hb3 hb4 dq hw hb
    walk_at "go"
    have hpb : ∀ a ∈ [p, b], a ∈ p :: W := fun a z => by
      rcases List.mem_cons.mp z with rfl | z
      · exact List.mem_cons_self ..
      · rw [List.mem_singleton.mp z]; exact List.mem_cons_of_mem _ hbW
    refine lp_df dq5 (fun i σ' H' => ∃ (u v : Option V) (kvs : List (Key × V)) (val : Str → Int), σ' = [some (.ref b), some (.ref q), some (.bl (decide (d0 = 0))), some (.int m), some (.int one), some (.ref p), u, v] ∧ Ed [p, b] H5 H' ∧ Bag H' b ∧ H' p = some (.dK kvs) ∧ kvs.length = i ∧ (∀ s ∈ names.take i, valV kvs (.inr s) = some (.int (val s))) ∧ ∀ s, s ∉ names.take i → valV kvs (.inr s) = none) ⟨_, _, [], fun _ => 0, rfl, Ed.refl, hb5, rp, rfl, by simp, fun _ _ => rfl⟩ (fun i σ' H' _ h => by
      obtain ⟨_, _, _, _, _, h, _⟩ := h
      exact h.weak hpb) ?_ ?_
    · rintro i x dd σ' H6 hdd ⟨u, v, kvs, val, rfl, e6, hb6, hp6, hkl, hval, hno⟩ hx
      obtain ⟨s, hs, rfl⟩ := at_map hdd
      obtain rfl := hx.isStr
      have hi : i < names.length := (List.getElem?_eq_some_iff.mp hs).1
      walk_at "go"
      refine g_cut (fun σ' H' => ∃ (z : Int), σ' = [some (.ref b), some (.ref q), some (.bl (decide (d0 = 0))), some (.int m), some (.int one), some (.ref p), some (.str s), some (.int z)] ∧ Ed [b] H6 H' ∧ Bag H' b) (fun R hR => ?_) ?_
      · walk_at "go"
        refine g_iteD (fun _ => ?_) (fun _ => ?_)
        · walk_at "go"
          exact hR _ _ ⟨one, rfl, Ed.refl, hb6⟩
        · walk_at "go"
          refine call_take hb6 m0 (by omega) fun z H7 z0 z1 e7 hb7 => ?_
          walk_at "go"
          exact hR _ _ ⟨z, rfl, e7, hb7⟩
      rintro σ' H7 ⟨z, rfl, e7, hb7⟩
      walk_at "go"
      refine call_take hb7 (by decide) (by decide) fun t H8 t0 t1 e8 hb8 => ?_
      have npb : p ∉ [b] := fun z => nbp (List.mem_singleton.mp z).symm
      have hp8 : H8 p = some (.dK kvs) := e8.get npb (e7.get npb hp6)
      have e58 : Ed [p, b] H5 H8 := (e6.tr e7 (edvl (by simp))).tr e8 (edvl (by simp))
      have hnew : valV kvs (.inr s) = none := by
        refine hno s fun z => ?_
        obtain ⟨j, hj, e⟩ := List.mem_take_iff_getElem.mp z
        obtain ⟨hi2, ei⟩ := List.getElem?_eq_some_iff.mp hs
        have hji : j < i := by omega
        have hj2 : j < names.length := by omega
        refine (List.pairwise_iff_getElem.mp nd0) j i hj2 hi hji ?_
        rw [e]
        exact ei.symm
      have fin : ∀ y : Int, (∃ (u v : Option V) (kvs' : List (Key × V)) (val : Str → Int), [some (V.ref b), some (.ref q), some (.bl (decide (d0 = 0))), some (.int m), some (.int one), some (.ref p), some (.str s), some (.int z)] = [some (.ref b), some (.ref q), some (.bl (decide (d0 = 0))), some (.int m), some (.int one), some (.ref p), u, v] ∧ Ed [p, b] H5 (upd H8 p (.dK (putK kvs (.inr s) (.int y)))) ∧ Bag (upd H8 p (.dK (putK kvs (.inr s) (.int y)))) b ∧ (upd H8 p (.dK (putK kvs (.inr s) (.int y)))) p = some (.dK kvs') ∧ kvs'.length = i + 1 ∧ (∀ s ∈ names.take (i + 1), valV kvs' (.inr s) = some (.int (val s))) ∧ ∀ s, s ∉ names.take (i + 1) → valV kvs' (.inr s) = none) := fun y => by
        refine ⟨_, _, putK kvs (.inr s) (.int y), fun t => if t = s then y else val t, rfl, e58.tr Ed.put (edvl (by simp)), hb8.put nbp, upd_same, by rw [putK_len hnew, hkl], fun t ht => ?_, fun t ht => ?_⟩
        · rw [valV_put]
          by_cases e : t = s
          · show _ = some (V.int (if t = s then y else val t))
            rw [if_pos (by rw [e]), if_pos e]
          · show _ = some (V.int (if t = s then y else val t))
            rw [if_neg (inr_ne e), if_neg e]
            rw [List.take_succ, hs] at ht
            rcases List.mem_append.mp ht with ht | ht
            · exact hval t ht
            · simp at ht; exact absurd ht e
        · rw [List.take_succ, hs] at ht
          have h1 : t ∉ names.take i := fun z => ht (List.mem_append_left _ z)
          have h2 : ¬ t = s := fun z => ht (List.mem_append_right _ (by rw [z]; exact List.mem_singleton.mpr rfl))
          rw [putK_other h2]
          exact hno t h1
      have hkz : kvs.length < sizeLine := by rw [sizeLine_eq]; omega
      walk_at "go"
      refine g_iteD (fun _ => ?_) (fun _ => ?_)
      · walk_at "go"
        exact fin _
      · walk_at "go"
        exact fin _
    · rintro σ' H6 ⟨u, v, kvs, val, rfl, e6, hb6, hp6, hkl, hval, hno⟩
      rw [take_all rfl] at hval
      rw [List.length_map] at hkl
      walk_at "go"
      exact k p kvs val H6 hp0 ((e04.tr e5 no0).tr e6 fun a z => by
        rcases List.mem_cons.mp z with rfl | z
        · exact .inr hp0
        · exact .inl z) hb6 hp6 hkl hval
end
section
variable {P : Program} {w : World} {K : PySem.W.Frag} {mg : Str → Option Value} {base : Heap}
theorem ok_law {f : Addr} {fd : FuncData} (F : FnP K "law" "law" s_law f fd) (T : Txt K mg) (C_law_integer : Cal P w K mg base 1 "_law_integer" ["_law_thing"] (sp_law_integer K)) (C_law_names : Cal P w K mg base 3 "_law_names" ["_law_bag", "_law_many"] (sp_law_names K)) (C_law_of : Cal P w K mg base 2 "_law_of" ["_law_bag", "_law_some"] (sp_law_of K)) (C_law_seed : Cal P w K mg base 1 "_law_seed" ["_law_script", "_law_at"] (sp_law_seed K)) (C_law_sum_text : Cal P w K mg base 1 "_law_sum_text" ["_law_terms_here"] (sp_law_sum_text K)) (C_law_take : Cal P w K mg base 1 "_law_take" ["_law_bag", "_law_many"] (sp_law_take K)) (C_law_terms : Cal P w K mg base 3 "_law_terms" ["_law_bag", "_law_names_here", "_law_many"] (sp_law_terms K)) (C_law_value : Cal P w K mg base 1 "_law_value" ["_law_terms_here", "_law_values_here"] (sp_law_value K)) (C_law_values : Cal P w K mg base 3 "_law_values" ["_law_bag", "_law_names_here"] (sp_law_values K)) (N_Sum___call__ : MtC P w K mg base 2 (He.ga K "Sum") "__call__" ["self", "values"] (sp_Sum___call__ K)) (M_Sum : MkC P w K mg base 3 "Sum" (He.ga K "Sum") ["self", "text", "names"] (sp_Sum___init__ K)) (N_Sum_mentions : MtC P w K mg base 1 (He.ga K "Sum") "mentions" ["self"] (sp_Sum_mentions K)) (R_law_of : OfC P w K mg base 2 "_law_of") (N_Sum___str__ : MtC P w K mg base 1 (He.ga K "Sum") "__str__" ["self"] (sp_Sum___str__ K))  : FnOk P w K mg base (L2.CX P w) 5 f fd ["_law_script"] (sp_law K) := by
  refine F.ok sc_law (fun vs H Q E h => ?_) (fun cdv A outer s H vs Q E hr h => ?_)
  · obtain ⟨a, ns, rfl, _⟩ := h
    rfl
  · have nd := sc_law.nd
    have tk := takes_of (E := E) (X := (cxOf (L2.CX P w) P w K mg base ["_law_script", "_law_at", "_law_bag", "_law_names_here", "_law_terms_here", "_law_text", "_law_blanks", "_law_wide", "_law_handed", "_law_total", "_law_other", "_law_turn", "_law_values_here", "_law_kept", "_law_name", "_law_told", "_law_due", "_law_sign", "_law_thing", "_law_found"] "law" (defScope s_law) f cdv A outer s H E)) rfl rfl rfl rfl
    have po : PassesOwn (model P w) (cxOf (L2.CX P w) P w K mg base ["_law_script", "_law_at", "_law_bag", "_law_names_here", "_law_terms_here", "_law_text", "_law_blanks", "_law_wide", "_law_handed", "_law_total", "_law_other", "_law_turn", "_law_values_here", "_law_kept", "_law_name", "_law_told", "_law_due", "_law_sign", "_law_thing", "_law_found"] "law" (defScope s_law) f cdv A outer s H E).A (cxOf (L2.CX P w) P w K mg base ["_law_script", "_law_at", "_law_bag", "_law_names_here", "_law_terms_here", "_law_text", "_law_blanks", "_law_wide", "_law_handed", "_law_total", "_law_other", "_law_turn", "_law_values_here", "_law_kept", "_law_name", "_law_told", "_law_due", "_law_sign", "_law_thing", "_law_found"] "law" (defScope s_law) f cdv A outer s H E).env (cxOf (L2.CX P w) P w K mg base ["_law_script", "_law_at", "_law_bag", "_law_names_here", "_law_terms_here", "_law_text", "_law_blanks", "_law_wide", "_law_handed", "_law_total", "_law_other", "_law_turn", "_law_values_here", "_law_kept", "_law_name", "_law_told", "_law_due", "_law_sign", "_law_thing", "_law_found"] "law" (defScope s_law) f cdv A outer s H E).xe := passes_of (X := (cxOf (L2.CX P w) P w K mg base ["_law_script", "_law_at", "_law_bag", "_law_names_here", "_law_terms_here", "_law_text", "_law_blanks", "_law_wide", "_law_handed", "_law_total", "_law_other", "_law_turn", "_law_values_here", "_law_kept", "_law_name", "_law_told", "_law_due", "_law_sign", "_law_thing", "_law_found"] "law" (defScope s_law) f cdv A outer s H E)) rfl
    obtain ⟨a, ns, rfl, hS, hl, hbits, k⟩ := h
    refine ⟨_, (pss_cons (ps_for po rfl (pi_range1 rfl T.n_range (pa_cons (pe_callB (cl_max rfl) (by rfl) T.n_max bt_max (pa_cons pe_int (pa_cons (pe_callB (cl_min rfl) (by rfl) T.n_min bt_min (pa_cons pe_int (pa_cons (pe_callB (cl_len K) (by rfl) T.n_len bt_len (pa_cons (pv 0) pa_nil)) pa_nil))) pa_nil))) pa_nil)) (q_name 1 nd) (pss_cons (q_set 2 nd (q_call C_law_seed tk (hr.mono (by decide)) (pa_cons (pv 0) (pa_cons (pv 1) pa_nil)))) (pss_cons (q_set 3 nd (q_call C_law_names tk (hr.mono (by decide)) (pa_cons (pv 2) (pa_cons (pe_op op_dAdd pe_int (q_call C_law_take tk (hr.mono (by decide)) (pa_cons (pv 2) (pa_cons pe_int pa_nil)))) pa_nil)))) (pss_cut (q_set 3 nd (pe_ifExp (pt_cmpR (op_dEq K hr.units) (q_call C_law_take tk (hr.mono (by decide)) (pa_cons (pv 2) (pa_cons pe_int pa_nil))) pe_int (nomark _)) (pe_op op_dAdd (pv 3) (pe_lst (pa_cons pe_str (pa_cons pe_str (pa_cons pe_str pa_nil))))) (pv 3))) (pss_cons (q_set 4 nd (q_call C_law_terms tk (hr.mono (by decide)) (pa_cons (pv 2) (pa_cons (pv 3) (pa_cons pe_int pa_nil))))) (pss_tok (i := 5) (q_call C_law_sum_text tk (hr.mono (by decide)) (pa_cons (pv 4) pa_nil)) nd (psr_ofC (ib := 2) (i := 6) R_law_of tk (hr.mono (by decide)) nd (pac_cons (pac_cons (pac_cons (pac_cons pac_nil)))) (psr_keep (i := 7) (pek_call C_law_of tk (hr.mono (by decide)) (pak_cons (pek_name (i := 2)) (pak_cons (pek_lst (pak_cons pek_str (pak_cons pek_str (pak_cons pek_str (pak_cons pek_str pak_nil))))) pak_nil))) nd (psr_keep (i := 8) (pek_list K (pek_name (i := 3)) (by rfl) T.n_list) nd (psr_use (i := 9) (per_make M_Sum tk (hr.mono (by decide)) (par_here (per_opl op_dAdd (per_opr op_dAdd (pek_name (i := 7)) (per_repl (i := 5) (j := 6) T.nob)) (pv 7)) (pa_cons (pv 8) pa_nil))) nd (pss_cons (q_set 10 nd (q_make M_Sum tk (hr.mono (by decide)) (pa_cons pe_str (pa_cons (pe_lst (pa_cons pe_str pa_nil)) pa_nil)))) (pss_cons (ps_expr (q_bm0 K PySem.F.plainAttrs_list PySem.F.slot_list_clear PySem.F.type_list_clear m_clear (pv 8))) (pss_one (ps_for po rfl (pi_range1 rfl T.n_range (pa_cons pe_int pa_nil)) (q_name 11 nd) (pss_cons (q_set 12 nd (q_call C_law_values tk (hr.mono (by decide)) (pa_cons (pv 2) (pa_cons (pv 3) pa_nil)))) (pss_cons (ps_setLc (i := 13) (own := [("_law_name", 14)]) (tt := tYes) rfl nd rfl rfl (sw_true rfl rfl rfl (by decide +kernel)) (q_list K (pv 3)) (blkOk_by (own := [("_law_name", 14)]) (N := ["_law_script", "_law_at", "_law_bag", "_law_names_here", "_law_terms_here", "_law_text", "_law_blanks", "_law_wide", "_law_handed", "_law_total", "_law_other", "_law_turn", "_law_values_here", "_law_kept", "_law_name", "_law_told", "_law_due", "_law_sign", "_law_thing", "_law_found"]) (sc := defScope s_law) (by decide +kernel)) (fun _ _ _ _ _ => (q_name 14 nd)) (fun _ _ _ _ _ => pts_nil) (fun _ _ _ _ _ => (pe_tup (pa_cons (pv 14) (pa_cons (pe_dget (units1 hr.units) (pv 12) (pv 14) (fun _ _ => rfl)) pa_nil))))) (pss_cons (q_set 15 nd (q_callO N_Sum___call__ tk (hr.mono (by decide)) (pv 9) (pa_cons (pv 12) pa_nil))) (pss_cut (ps_if (PW.pt (pw_or (pt_not (q_truth K (q_call C_law_integer tk (hr.mono (by decide)) (pa_cons (pv 15) pa_nil)))) (pw_or (pt_cmpR (op_dNe K hr.units) (pv 15) (q_call C_law_value tk (hr.mono (by decide)) (pa_cons (pv 4) (pa_cons (pv 12) pa_nil))) (nomark _)) (pw_or1 (pt_cmpR (op_dNe K hr.units) (q_callO N_Sum___call__ tk (hr.mono (by decide)) (pv 10) (pa_cons (pe_disp (pps_cons pe_str pe_int pps_nil) rfl rfl (by simp) (by decide)) pa_nil)) (pe_un un_neg pe_int) (nomark _)))))) (pss_one (ps_ret pe_bl)) pss_nil) (pss_cut (ps_if (PW.pt (pw_or (pt_cmpR (op_dNe K hr.units) (pe_lc (own := [("_law_name", 14)]) (tt := tYes) rfl nd (q_list K (pv 3)) (blkOk_by (own := [("_law_name", 14)]) (N := ["_law_script", "_law_at", "_law_bag", "_law_names_here", "_law_terms_here", "_law_text", "_law_blanks", "_law_wide", "_law_handed", "_law_total", "_law_other", "_law_turn", "_law_values_here", "_law_kept", "_law_name", "_law_told", "_law_due", "_law_sign", "_law_thing", "_law_found"]) (sc := defScope s_law) (by decide +kernel)) (fun _ _ _ _ _ => (q_name 14 nd)) (fun _ _ _ _ _ => pts_nil) (fun _ _ _ _ _ => (pe_tup (pa_cons (pv 14) (pa_cons (pe_dget (units1 hr.units) (pv 12) (pv 14) (fun _ _ => rfl)) pa_nil))))) (pv 13) (nomark _)) (pw_or1 (pt_cmpR (op_dNe K hr.units) (pe_callB cl_lenD (by rfl) T.n_len bt_len (pa_cons (pv 12) pa_nil)) (pe_callB (cl_len K) (by rfl) T.n_len bt_len (pa_cons (pv 3) pa_nil)) (nomark _))))) (pss_one (ps_ret pe_bl)) pss_nil) (pss_cons (ps_setLc (i := 16) (own := [("_law_name", 14)]) rfl nd rfl rfl (sw_true rfl rfl rfl (by decide +kernel)) (q_list K (pe_callB (cl_sorted K) (by rfl) T.n_sorted bt_sorted (pa_cons (pv 3) pa_nil))) (blkOk_by (own := [("_law_name", 14)]) (N := ["_law_script", "_law_at", "_law_bag", "_law_names_here", "_law_terms_here", "_law_text", "_law_blanks", "_law_wide", "_law_handed", "_law_total", "_law_other", "_law_turn", "_law_values_here", "_law_kept", "_law_name", "_law_told", "_law_due", "_law_sign", "_law_thing", "_law_found"]) (sc := defScope s_law) (by decide +kernel)) (fun _ _ _ _ _ => (q_name 14 nd)) (fun _ _ _ _ _ => (pts_one (pt_cmpR (op_dIn K) (pv 14) (pe_lc (own := [("_law_sign", 17), ("_law_thing", 18)]) (tt := tYes) rfl nd (q_list K (pv 4)) (blkOk_by (own := [("_law_sign", 17), ("_law_thing", 18)]) (by kernel_rfl)) (fun _ _ _ _ _ => (q_gtup K 2 (pgs_cons (q_name 17 nd) (pgs_cons (q_name 18 nd) pgs_nil)))) (fun _ _ _ _ _ => pts_nil) (fun _ _ _ _ _ => (pv 18))) (by rfl)))) (fun _ _ _ _ _ => (pv 14))) (pss_cons (q_set 19 nd (q_meth0 N_Sum_mentions tk (hr.mono (by decide)) (pv 9))) (pss_cut (ps_if (PW.pt (pw_or (pt_not (q_truth K (pe_callB (cl_isinstance K) (by rfl) T.n_isinstance bt_isinstance (pa_cons (pv 19) (pa_cons (q_bltn T.n_list bt_list) pa_nil))))) (pw_or (pt_cmpR (op_dNe K hr.units) (pv 19) (pv 16) (nomark _)) (pw_or (pt_cmpR (op_dNe K hr.units) (q_strO N_Sum___str__ tk (hr.mono (by decide)) (pv 9) T.n_str) (pv 5) (nomark _)) (pw_or1 (pt_cmpR (op_dNe K hr.units) (q_meth0 N_Sum_mentions tk (hr.mono (by decide)) (pv 10)) (pe_lst pa_nil) (nomark _))))))) (pss_one (ps_ret pe_bl)) pss_nil) (pss_one (ps_expr (q_bm K PySem.F.plainAttrs_list PySem.F.slot_list_append PySem.F.type_list_append m_append (pv 19) (pa_cons pe_str pa_nil)))))))))))))))))))))))))) (pss_one (ps_ret pe_bl))), ?_⟩
    refine g_start (σ' := some _ :: none :: none :: none :: none :: none :: none :: none :: none :: none :: none :: none :: none :: none :: none :: none :: none :: none :: none :: none :: []) rfl ?_
    walk_at "go"
    refine lp_it walk_range (fun i σ' H' => ∃ u1 u2 u3 u4 u5 u6 u7 u8 u9 u10 u11 u12 u13 u14 u15 u16 u17 u18 u19 : Option V, σ' = [some (.ref a), u1, u2, u3, u4, u5, u6, u7, u8, u9, u10, u11, u12, u13, u14, u15, u16, u17, u18, u19] ∧ Ed [] H H') ⟨_, _, _, _, _, _, _, _, _, _, _, _, _, _, _, _, _, _, _, rfl, Ed.refl⟩ (fun _ _ _ _ _ => trivial) ?_ ?_
    · rintro i x σ' H1 H2 hi ⟨u1, u2, u3, u4, u5, u6, u7, u8, u9, u10, u11, u12, u13, u14, u15, u16, u17, u18, u19, rfl, e0⟩ ⟨rfl, rfl⟩
      walk_at "go"
      refine call_seed (sqL_same hS e0.same') (by omega) fun b H3 hb0 e1 hb => ?_
      walk_at "go"
      refine call_take hb (by decide) (by decide) fun d H4 d0 d1 e2 hb2 => ?_
      walk_at "go"
      refine call_names (W := [b]) (many := (1 + d).toNat) hb2 (by walk_at "wl") (by omega) (by omega) fun p0 f names0 H5 hp00 e3 hb3 hnm0 hlen0 ok0 => ?_
      walk_at "go"
      have w5 : Wl [b] H5 := by walk_at "wl"
      refine g_cut (fun σ' H' => ∃ (p : Addr) (names : List Str) (u4 u5 u6 u7 u8 u9 u10 u11 u12 u13 u14 u15 u16 u17 u18 u19 : Option V), σ' = [some (.ref a), some (.int (0 + (i : Int))), some (.ref b), some (.ref p), u4, u5, u6, u7, u8, u9, u10, u11, u12, u13, u14, u15, u16, u17, u18, u19] ∧ Ed [b] H5 H' ∧ Bag H' b ∧ Df [b] H' (.ref p) (.list (names.map PyData.str)) ∧ (∀ x ∈ names, NmK x) ∧ names.Nodup ∧ names.length ≤ 11 ∧ names ≠ []) (fun R hR => ?_) ?_
      · walk_at "go"
        refine call_take hb3 (by decide) (by decide) fun t H6 t0 t1 e6 hb6 => ?_
        have dn6 := hnm0.ed e6 subr
        have w6 := w5.ed e6
        have nk : ∀ x ∈ names0, NmK x := fun x hx => by
          obtain ⟨j, hj⟩ := ok0.mem hx
          exact nmK_wd hj
        have ne0 : names0 ≠ [] := fun z => by rw [z] at hlen0; simp at hlen0; omega
        walk_at "go"
        refine g_iteD (fun _ => ?_) (fun _ => ?_)
        · walk_at "go"
          refine al fun l1 hl1 => ?_
          generalize hH7 : upd H6 l1 _ = H7
          obtain ⟨e7, dl⟩ := new_l (W := [b]) hH7 hl1 (by walk_at "dfs") (by walk_at "wl")
          clear hH7
          walk_at "go"
          refine g_addd (W := [b]) (es := (["given", "sent", "got"] : List Str).map PyData.str) (dn6.ed e7 no0) dl (w6.ed e7) (by rw [sizeLine_eq, List.length_map]; simp; omega) fun q H8 hq e8 dq => ?_
          walk_at "go"
          refine hR _ _ ⟨q, names0 ++ (["given", "sent", "got"] : List Str), _, _, _, _, _, _, _, _, _, _, _, _, _, _, _, _, rfl, (e6.tr e7 no0).tr e8 no0, (hb6.ed e7 List.not_mem_nil).ed e8 List.not_mem_nil, by rw [List.map_append]; exact dq, fun x hx => ?_, names_more ok0 (by omega), by simp; omega, by simp⟩
          rcases List.mem_append.mp hx with hx | hx
          · exact nk x hx
          · exact nmK_more x hx
        · walk_at "go"
          exact hR _ _ ⟨p0, names0, _, _, _, _, _, _, _, _, _, _, _, _, _, _, _, _, rfl, e6, hb6, dn6, nk, names_nd ok0 (by omega), by omega, ne0⟩
      have hbH : H b = none := e0.free hb0
      have e05 : Ed [] H H5 := by walk_at "ed"
      clear e0 e1 e2 e3 hb hb2 hb3 hnm0 hp00 ok0 hlen0
      rintro σ' H6 ⟨p, names, u4, u5, u6, u7, u8, u9, u10, u11, u12, u13, u14, u15, u16, u17, u18, u19, rfl, e6, hb6, dn, nk, nnd, nlen, nne⟩
      have w6 : Wl [b] H6 := w5.ed e6
      have e06 : Ed [] H H6 := e05.tr e6 (edv1 (.inr hbH))
      clear w5 e6 e05
      walk_at "go"
      refine ⟨[b], b, p, names, 5, rfl, hb6, by simp, w6, dn, by omega, by decide, by decide, fun pt ts H7 hpt e7 hb7 dts tsw => ?_⟩
      obtain ⟨tok, tk1, tk8, tkl, tss⟩ := tsK_ok nk tsw
      have w7 := w6.ed e7
      have dn7 := dn.ed e7 subr
      have e07 : Ed [] H H7 := e06.tr e7 (edv1 (.inr hbH))
      clear e7 e06 w6 hb6 dn hpt
      walk_at "go"
      refine ⟨[b], pt, ts, rfl, dts, w7, tsw.2.1, tss, fun H8 e8 => ?_⟩
      walk_at "go"
      refine g_ofC rfl (by walk_at "bag") fun c H9 hc e9 hb9 => ?_
      simp only [List.set_cons_succ, List.set_cons_zero]
      have dn9 := (dn7.ed e8 no0).ed e9 subr
      have dts9 := (dts.ed e8 no0).ed e9 subr
      have w9 := (w7.ed e8).ed e9
      have e09 : Ed [] H H9 := (e07.tr e8 no0).tr e9 (edv1 (.inr hbH))
      clear e8 e9 e07 w7 dn7 dts hb7
      walk_at "go"
      refine al fun l1 hl1 => ?_
      generalize hH10 : upd H9 l1 _ = H10
      obtain ⟨e10, dl⟩ := new_l (W := [b]) hH10 hl1 (by walk_at "dfs") (by walk_at "wl")
      clear hH10
      walk_at "go"
      refine call_ofC (W := [b]) (ds := (["", "", " ", "  "] : List Str).map PyData.str) (hb9.ed e10 List.not_mem_nil) dl (by simp) fun v dd H11 hd e11 hb11 dv => ?_
      obtain ⟨wd, rfl, hwd⟩ : ∃ wd : Str, dd = .str wd ∧ wd ∈ (["", " ", "  "] : List Str) := by
        obtain ⟨s, hs, rfl⟩ := List.mem_map.mp hd
        exact ⟨s, rfl, by simp at hs ⊢; rcases hs with rfl | rfl | rfl <;> simp⟩
      obtain rfl := dv.isStr
      have dn11 := (dn9.ed e10 no0).ed e11 subr
      have dts11 := (dts9.ed e10 no0).ed e11 subr
      have w11 := (w9.ed e10).ed e11
      have e011 : Ed [] H H11 := (e09.tr e10 no0).tr e11 (edv1 (.inr hbH))
      clear e10 e11 e09 w9 dn9 dts9 hb9 dl
      walk_at "go"
      refine g_listd (W := [b]) dn11 w11 fun lh H12 hlh e12 dlh => ?_
      have nlb : lh ∉ [b] := dlh.nin
      have dn12 := (dn11.more hlh).ed e12 no0
      have dts12 := (dts11.more hlh).ed e12 no0
      have w12 : Wl [lh, b] H12 := Wl.cons' dlh.alive (w11.ed e12)
      have hlhH : H lh = none := e011.free hlh
      have hb12 := hb11.ed e12 List.not_mem_nil
      have e012 : Ed [] H H12 := e011.tr e12 no0
      have rlh : H12 lh = some (.lst (names.map V.str)) := dlh.strL.2
      clear e12 e011 w11 dn11 dts11 hb11
      have hc3 : c ∈ ([" ", "  ", "   "] : List Str) := by
        simp only [List.mem_cons, List.not_mem_nil, or_false] at hc ⊢
        rcases hc with rfl | rfl | rfl | rfl <;> simp
      have hcl : c.length ≤ 3 := (bl_b c hc3).2.2
      have hsl : (spc (sumT ts)).length ≤ 81 := Nat.le_trans (join_len_le " " 8 _ tk8) (by rw [show ((" " : Str)).length = 1 from rfl]; omega)
      walk_at "go"
      refine ⟨spc (sumT ts), c, rfl, rfl, by have := Nat.mul_le_mul_left ((spc (sumT ts)).length + 1) hcl; omega, fun c' hc' => ?_⟩
      obtain ⟨hwords, hcl', hwl⟩ := words_wide tk1 tk8 hc3 hwd hc'
      walk_at "go"
      refine g_add_s (by rw [sizeLine_eq]; omega) ?_
      walk_at "go"
      refine g_add_s (by rw [sizeLine_eq, Str.length_append]; omega) ?_
      walk_at "go"
      intro x dx hx hdx hnx
      generalize hH13 : upd (upd H12 dx _) x _ = H13
      obtain ⟨e13, hx0⟩ := new_i hH13 hx hdx hnx
      clear hH13
      have nme : ("" : Str) ∉ names := fun z => (nk _ z).1.1 rfl
      have hread : readS names (Txt.words (wd ++ c' ++ wd)) 5 0 1 [] = (some ts, (Txt.words (wd ++ c' ++ wd)).length) := by rw [hwords]; exact readS_sum tok
      refine ⟨x, dx, lh, wd ++ c' ++ wd, names, rfl, hx0, SqL.of (e13.get List.not_mem_nil rlh), nme, by rw [Str.length_append, Str.length_append]; omega, fun n hn _ => ?_, fun ts' H14 hts' s14 hSA => ⟨rfl, ?_⟩⟩
      · rw [hread] at hn
        rcases hn with z | z
        · cases z
        · exfalso
          rename_i he
          rw [hread] at he
          have he : (Txt.words (wd ++ c' ++ wd)).length = n := he
          omega
      rw [hread] at hts'
      cases hts'
      have hSA : SumAt K H14 x ts (spc (sumT ts)) := by
        rw [hwords, join_txt] at hSA
        exact hSA
      have e14 : Ed [] H12 H14 := sum_made hx e13 s14 hSA
      clear e13 s14 hx0 hc' hcl' hread
      walk_at "go"
      refine al fun lb hlb => ?_
      generalize hH15 : upd H14 lb _ = H15
      obtain ⟨e15, dlb⟩ := new_l (W := [lh, b]) hH15 hlb (by walk_at "dfs") (by walk_at "wl")
      clear hH15
      walk_at "go"
      have dlb : Df [lh, b] H15 (.ref lb) (.list ((["b"] : List Str).map PyData.str)) := dlb
      intro y dy hy hdy hny
      generalize hH16 : upd (upd H15 dy _) y _ = H16
      obtain ⟨e16, hy0⟩ := new_i hH16 hy hdy hny
      clear hH16
      have hr2 : readS ["b"] (Txt.words "7 - 9") 5 0 1 [] = (some ts79, (Txt.words "7 - 9").length) := by rw [w79]; exact readS_sum ok79
      refine ⟨y, dy, lb, "7 - 9", ["b"], rfl, hy0, SqL.of (e16.get List.not_mem_nil dlb.strL.2), by decide +kernel, by decide +kernel, fun n hn he => ?_, fun ts' H17 hts' s17 hSB => ⟨rfl, ?_⟩⟩
      · rw [hr2] at hn he
        rcases hn with z | z
        · cases z
        · exfalso
          have he : (Txt.words "7 - 9").length = n := he
          omega
      rw [hr2] at hts'
      cases hts'
      have e17 : Ed [] H15 H17 := sum_made hy e16 s17 hSB
      have e1217 : Ed [] H12 H17 := (e14.tr e15 no0).tr e17 no0
      have hSA17 := (hSA.ed e15).ed e17
      have rlh17 := e1217.get List.not_mem_nil rlh
      clear e16 s17 hy0 hr2
      generalize Txt.join " " (Txt.words "7 - 9") = sh2 at hSB
      walk_at "go"
      refine g_clear rlh17 ?_
      have eP : Ed [lh] H17 (upd H17 lh (.lst [])) := Ed.put
      generalize upd H17 lh (.lst []) = H20 at eP
      have sA : SumAt K H20 x ts (spc (sumT ts)) := hSA17.edL eP rlh17 nne
      have sB : SumAt K H20 y ts79 sh2 := hSB.edL eP rlh17 nne
      have nn := (dn12.ed e1217 no0).ed eP (sub1 (List.mem_cons_self ..))
      have nt := (dts12.ed e1217 no0).ed eP (sub1 (List.mem_cons_self ..))
      have w20 : Wl [lh, b] H20 := (w12.ed e1217).ed eP
      have hb20 : Bag H20 b := (hb12.ed e1217 List.not_mem_nil).ed eP (fun z => nlb (by rw [← List.mem_singleton.mp z]; exact List.mem_singleton.mpr rfl))
      have e020 : Ed [] H H20 := (e012.tr e1217 no0).tr eP (edv1 (.inr hlhH))
      clear e14 e15 e17 e1217 hSA hSA17 hSB rlh rlh17 eP e012 dn12 dts12 w12 hb12 dlh dlb hwords dv hd hlh
      walk_at "go"
      refine lp_it walk_range (fun j σ' H' => ∃ (u11 u12 u13 u14 u15 u16 u17 u18 u19 : Option V), σ' = [some (.ref a), some (.int (0 + (i : Int))), some (.ref b), some (.ref p), some (.ref pt), some (.str (spc (sumT ts))), some (.str c), some (.str wd), some (.ref lh), some (.ref x), some (.ref y), u11, u12, u13, u14, u15, u16, u17, u18, u19] ∧ Ed [b] H20 H' ∧ Bag H' b) ⟨_, _, _, _, _, _, _, _, _, rfl, Ed.refl, hb20⟩ (fun _ _ _ _ _ => trivial) ?_ ?_
      · rintro j z σ' H21 H22 hj ⟨u11, u12, u13, u14, u15, u16, u17, u18, u19, rfl, e21, hb21⟩ ⟨rfl, rfl⟩
        walk_at "go"
        have bw : b ∈ [lh, b] := by simp
        refine ⟨[lh, b], b, p, names, rfl, hb21, bw, w20.ed e21, nn.ed e21 (sub1 bw), by omega, nnd, fun vd kvs val H23 hvd e23 hb0 rv0 hkl hval => ?_⟩
        have nn0 := (nn.ed e21 (sub1 bw)).ed e23 (sub1 bw)
        have nt0 := (nt.ed e21 (sub1 bw)).ed e23 (sub1 bw)
        have w0 : Wl [lh, b] H23 := (w20.ed e21).ed e23
        have sA0 := (sA.edB e21 hb20).edB e23 hb21
        have sB0 := (sB.edB e21 hb20).edB e23 hb21
        have eZ0 : Ed [b] H20 H23 := e21.tr e23 (edvl subr)
        have vin : ValsIn kvs val ts := fun t ht => ⟨(tsw.2.2.1 t ht).2, fun s hs => hval s (by have := (tsw.2.2.1 t ht).1; rw [hs] at this; exact this)⟩
        clear e21 e23 hb21
        walk_at "go"
        intro D1 hD1
        refine lc_df (by walk_at "wipe") (U := []) (W := [lh, b]) (ds := names.map PyData.str) nn0 (by rw [sizeLine_eq, List.length_map]; omega) hD1 w0 no0 (fun jj acc => acc = (names.take jj).map fun s => PyData.tuple [.str s, .int (val s)]) (fun H' => H' vd = some (.dK kvs)) (fun _ _ h e => e.get (fun z => (ne_of_none rv0 hD1) (List.mem_singleton.mp z)) h) rv0 rfl ?_ ?_
        · rintro jj q dd acc HB R N hdd hacc hd1 e1 w1 hy yes no
          obtain ⟨s, hs, rfl⟩ := at_map hdd
          obtain rfl := hy.isStr
          have hvs1 := hval s (List.mem_of_getElem? hs)
          walk_at "go"
          refine ⟨rfl, ?_⟩
          walk_at "go"
          refine al fun tq htq => ?_
          generalize hG : upd HB tq _ = HT
          obtain ⟨e2, dtq⟩ := new_t (W := D1 :: [lh, b]) (ds := [.str s, .int (val s)]) hG htq (.cons (.str _) (.cons (.int _) .nil)) w1
          clear hG
          exact yes _ _ _ e2 dtq (e2.get List.not_mem_nil hd1) (by rw [hacc, take_snoc hs])
        rintro acc H24 hacc _ eH24 dD1 _
        rw [take_all rfl] at hacc
        subst hacc
        have nn1 := nn0.ed eH24 no0
        have nt1 := nt0.ed eH24 no0
        have w1 : Wl [lh, b] _ := w0.ed eH24
        have sA1 := sA0.ed eH24
        have sB1 := sB0.ed eH24
        have rv1 := eH24.get List.not_mem_nil rv0
        have hb1 := hb0.ed eH24 List.not_mem_nil
        have eZ1 : Ed [b] H20 _ := eZ0.tr eH24 no0
        clear nn0 nt0 w0 sA0 sB0 rv0 hb0 eZ0
        obtain ⟨dxA, lA, hxA, _⟩ := id sA1
        walk_at "go"
        refine ⟨x, vd, ts, _, kvs, val, rfl, sA1, rv1, vin, ?_⟩
        walk_at "go"
        refine g_uncut ?_
        walk_at "go"
        refine ⟨_, rfl, ?_⟩
        walk_at "go"
        refine ⟨[lh, b], pt, vd, ts, kvs, val, rfl, nt1, rv1, vin, ?_⟩
        walk_at "go"
        obtain ⟨dyB, lB, hyB, _⟩ := id sB1
        refine ⟨y, dyB, _, rfl, hyB, ?_⟩
        walk_at "go"
        intro pd H25 hpd e25 g25
        walk_at "go"
        refine ⟨g25, kv5, rfl, Nat.le_of_ble_eq_true rfl, ?_⟩
        generalize hH26 : upd H25 pd _ = H26
        obtain ⟨e26, dpd⟩ := new_d (W := [lh,b]) hH26 (by walk_at "wl") hpd
        clear hH26
        have e2426 : Ed [] H24 H26 := e25.tr e26 (edv1 (.inr hpd))
        clear e25 e26 g25
        have dK1 := dD1.ed e2426 no0
        have hyB' := e2426.get List.not_mem_nil hyB
        have nn2 := nn1.ed e2426 no0
        have nt2 := nt1.ed e2426 no0
        have w2 : Wl [lh, b] _ := w1.ed e2426
        have sA2 := sA1.ed e2426
        have sB2 := sB1.ed e2426
        have rv2 := e2426.get List.not_mem_nil rv1
        have hb2 := hb1.ed e2426 List.not_mem_nil
        have eZ2 : Ed [b] H20 _ := eZ1.tr e2426 no0
        clear nn1 nt1 w1 sA1 sB1 rv1 hb1 eZ1
        refine ⟨⟨dyB, _, hyB'⟩, y, pd, ts79, sh2, _, fun _ => 0, rfl, sB2, dpd.2, vals79, ?_⟩
        rw [sum79]
        walk_at "go"
        refine g_uncut ?_
        walk_at "go"
        intro D2 hD2
        refine lc_df (by walk_at "wipe") (U := []) (W := [lh, b]) (ds := names.map PyData.str) nn2 (by rw [sizeLine_eq, List.length_map]; omega) hD2 w2 no0 (fun jj acc => acc = (names.take jj).map fun s => PyData.tuple [.str s, .int (val s)]) (fun H' => H' vd = some (.dK kvs)) (fun _ _ h e => e.get (fun z => (ne_of_none rv2 hD2) (List.mem_singleton.mp z)) h) rv2 rfl ?_ ?_
        · rintro jj q dd acc HB R N hdd hacc hd1 e1 w1 hy yes no
          obtain ⟨s, hs, rfl⟩ := at_map hdd
          obtain rfl := hy.isStr
          have hvs1 := hval s (List.mem_of_getElem? hs)
          walk_at "go"
          refine ⟨rfl, ?_⟩
          walk_at "go"
          refine al fun tq htq => ?_
          generalize hG : upd HB tq _ = HT
          obtain ⟨e2, dtq⟩ := new_t (W := D2 :: [lh, b]) (ds := [.str s, .int (val s)]) hG htq (.cons (.str _) (.cons (.int _) .nil)) w1
          clear hG
          exact yes _ _ _ e2 dtq (e2.get List.not_mem_nil hd1) (by rw [hacc, take_snoc hs])
        rintro acc H27 hacc _ e27 dD2 _
        rw [take_all rfl] at hacc
        subst hacc
        walk_at "go"
        refine g_neSelf (W := [lh, b]) (n := 2) dD2 (dK1.ed e27 no0) (Sd.list (n := 1) fun d hd => ?_) (by decide) ?_
        · obtain ⟨s, hs, rfl⟩ := List.mem_map.mp hd
          exact Sd.tuple (n := 0) (Sd.cons (Sd.str (nmK_sk (nk s hs))) (Sd.cons (Sd.int _) Sd.nil))
        have nn3 := nn2.ed e27 no0
        have nt3 := nt2.ed e27 no0
        have w3 : Wl [lh, b] _ := w2.ed e27
        have sA3 := sA2.ed e27
        have sB3 := sB2.ed e27
        have rv3 := e27.get List.not_mem_nil rv2
        have hb3 := hb2.ed e27 List.not_mem_nil
        have eZ3 : Ed [b] H20 _ := eZ2.tr e27 no0
        clear nn2 nt2 w2 sA2 sB2 rv2 hb2 eZ2
        walk_at "go"
        refine ⟨vd, kvs, rfl, rv3, ?_⟩
        walk_at "go"
        rw [hkl, List.length_map]
        walk_at "go"
        refine ⟨p, names, rfl, SqL.of nn3.strL.2, by omega, fun ys q2 hperm hsort hq2 => ?_⟩
        generalize hG : upd H27 q2 _ = H28
        obtain ⟨e28, dys⟩ := new_s (W := [lh, b]) hG hq2 w3
        clear hG
        have nn4 := nn3.ed e28 no0
        have nt4 := nt3.ed e28 no0
        have w4 : Wl [lh, b] _ := w3.ed e28
        have sA4 := sA3.ed e28
        have sB4 := sB3.ed e28
        have rv4 := e28.get List.not_mem_nil rv3
        have hb4 := hb3.ed e28 List.not_mem_nil
        have eZ4 : Ed [b] H20 _ := eZ3.tr e28 no0
        clear nn3 nt3 w3 sA3 sB3 rv3 hb3 eZ3
        walk_at "go"
        intro D4 hD4
        refine lc_df (by walk_at "wipe") (U := []) (W := [lh, b]) (ds := ys.map PyData.str) dys (by rw [sizeLine_eq, List.length_map, hperm.length_eq]; omega) hD4 w4 no0 (fun jj acc => acc = ((ys.take jj).filter (inTs ts)).map PyData.str) (fun _ => True) (fun _ _ _ _ => trivial) trivial rfl ?_ ?_
        · rintro jj q dd acc HB R N hdd hacc _ e1 w1 hy yes no
          obtain ⟨s, hs, rfl⟩ := at_map hdd
          obtain rfl := hy.isStr
          have ntB := (nt4.more hD4).ed e1 no0
          walk_at "go"
          refine ⟨rfl, ?_⟩
          walk_at "go"
          intro D5 hD5
          refine lc_df (by walk_at "wipe") (U := []) (W := D4 :: [lh, b]) (ds := ts.map termD) ntB (by rw [sizeLine_eq, List.length_map]; have := tsw.2.1; omega) hD5 w1 no0 (fun jj acc => acc = (ts.take jj).map fun t => tmD t.2) (fun _ => True) (fun _ _ _ _ => trivial) trivial rfl ?_ ?_
          · rintro jj2 q2 dd2 acc2 HC R2 N2 hdd2 hacc2 _ e2 w2 hy2 yes2 no2
            obtain ⟨τ, hτ, rfl⟩ := at_map hdd2
            obtain ⟨pa, rfl⟩ := Df.isRefT hy2
            walk_at "go"
            refine g_gtupd hy2 rfl fun xs hxs => ?_
            obtain ⟨v, rfl, hv⟩ := cells2 hxs
            walk_at "go"
            refine ⟨rfl, ?_⟩
            walk_at "go"
            exact yes2 _ _ _ Ed.refl hv trivial (by rw [hacc2, take_snoc hτ])
          rintro acc2 HC hacc2 _ eC dD5 _
          rw [take_all rfl] at hacc2
          subst hacc2
          walk_at "go"
          refine g_inL (Or.inl (SqL.of (df_tms dD5))) rfl (flat_tms ts) ?_
          rw [inV_ts]
          walk_at "go"
          refine g_ite (fun hin => ?_) (fun hin => ?_)
          · walk_at "go"
            exact yes _ _ _ eC (.str _) trivial (by rw [hacc, filter_yes hs hin, List.map_append]; rfl)
          · exact no _ eC trivial (by rw [hacc, filter_no hs hin])
        rintro acc H29 hacc _ e29 dD4 _
        rw [take_all rfl] at hacc
        subst hacc
        have nn5 := nn4.ed e29 no0
        have nt5 := nt4.ed e29 no0
        have w5 : Wl [lh, b] _ := w4.ed e29
        have sA5 := sA4.ed e29
        have sB5 := sB4.ed e29
        have rv5 := e29.get List.not_mem_nil rv4
        have hb5 := hb4.ed e29 List.not_mem_nil
        have eZ5 : Ed [b] H20 _ := eZ4.tr e29 no0
        clear nn4 nt4 w4 sA4 sB4 rv4 hb4 eZ4
        obtain ⟨dxC, lC, hxC, _⟩ := id sA5
        walk_at "go"
        refine ⟨x, ts, _, rfl, sA5, by have := tsw.2.1; omega, fun xs f1 H30 e30 hf1 hsorted hndx hmem rf1 => ?_⟩
        have hxs : xs = ys.filter (inTs ts) := due_eq hperm hsort nnd hsorted hndx hmem fun t ht k0 hk0 => by
          have := (tsw.2.2.1 t ht).1
          rw [hk0] at this
          exact this
        have dF1 : Df [lh, b] H30 (.ref f1) (.list (xs.map PyData.str)) := .lst (w5.not hf1) rf1 (DfAll.strs xs)
        have dDue := dD4.ed e30 no0
        rw [← hxs] at dDue
        have sdx : Sd 1 (.list (xs.map PyData.str)) := Sd.list (n := 0) (Sd.map fun s hs => Sd.str (nmK_sk (nk s (by
          rw [hxs] at hs
          exact hperm.mem_iff.mp (List.mem_filter.mp hs).1))))
        have hf120 : H20 f1 = none := eZ5.free hf1
        have nn6 := nn5.ed e30 no0
        have nt6 := nt5.ed e30 no0
        have w6 : Wl [lh, b] _ := w5.ed e30
        have sA6 := sA5.ed e30
        have sB6 := sB5.ed e30
        have rv6 := e30.get List.not_mem_nil rv5
        have hb6 := hb5.ed e30 List.not_mem_nil
        have eZ6 : Ed [b] H20 _ := eZ5.tr e30 no0
        clear nn5 nt5 w5 sA5 sB5 rv5 hb5 eZ5
        walk_at "go"
        refine g_uncut ?_
        walk_at "go"
        refine g_isi (b := true) (.ty _) (.base (.lst rf1)) (by rfl) ?_
        walk_at "go"
        refine g_neSelf (W := [lh, b]) (n := 1) dF1 dDue sdx (by decide) ?_
        walk_at "go"
        obtain ⟨dxE, lE, hxE, _⟩ := id sA6
        refine g_strO ?_
        walk_at "go"
        refine ⟨x, ts, _, rfl, sA6, _, rfl, ?_⟩
        walk_at "go"
        obtain ⟨dyE, lF, hyE, _⟩ := id sB6
        walk_at "go"
        refine ⟨y, ts79, _, rfl, sB6, by decide, fun xs2 f2 H31 e31 hf2 _ _ hmem2 rf2 => ?_⟩
        have hx2 : xs2 = [] := by
          cases xs2 with
          | nil => rfl
          | cons s r => exact absurd ((hmem2 s).mp (List.mem_cons_self ..)) no79
        subst hx2
        have dF2 : Df [lh, b] H31 (.ref f2) (.list []) := .lst (w6.not hf2) rf2 .nil
        have rf1' := e31.get List.not_mem_nil rf1
        have nn7 := nn6.ed e31 no0
        have nt7 := nt6.ed e31 no0
        have w7 : Wl [lh, b] _ := w6.ed e31
        have sA7 := sA6.ed e31
        have sB7 := sB6.ed e31
        have rv7 := e31.get List.not_mem_nil rv6
        have hb7 := hb6.ed e31 List.not_mem_nil
        have eZ7 : Ed [b] H20 _ := eZ6.tr e31 no0
        clear nn6 nt6 w6 sA6 sB6 rv6 hb6 eZ6
        walk_at "go"
        refine al fun ll hll => ?_
        generalize hH32 : upd H31 ll _ = H32
        obtain ⟨e32, dll⟩ := new_l (W := [lh, b]) hH32 hll (by walk_at "dfs") (by walk_at "wl")
        clear hH32
        have rf1b := e32.get List.not_mem_nil rf1'
        refine g_neSelf (W := [lh, b]) (n := 1) (dF2.ed e32 no0) dll (Sd.list (n := 0) fun d hd => absurd hd List.not_mem_nil) (by decide) ?_
        walk_at "go"
        have hxl : xs.length ≤ 11 := by
          rw [hxs]
          have h1 := List.length_filter_le (inTs ts) ys
          have h2 := hperm.length_eq
          omega
        refine g_app rf1b (by rw [sizeLine_eq, List.length_map]; omega) ?_
        exact ⟨_, _, _, _, _, _, _, _, _, rfl, (eZ7.tr e32 no0).tr Ed.put (edv1 (.inr hf120)), (hb7.ed e32 List.not_mem_nil).put fun z => by
          obtain ⟨_, _, h⟩ := hb20
          rw [z, hf120] at h
          cases h⟩
      · rintro σ' H21 ⟨u11, u12, u13, u14, u15, u16, u17, u18, u19, rfl, e21, hb21⟩
        walk_at "go"
        exact ⟨_, _, _, _, _, _, _, _, _, _, _, _, _, _, _, _, _, _, _, rfl, e020.tr e21 (edv1 (.inr hbH))⟩
    · rintro σ' H1 ⟨u1, u2, u3, u4, u5, u6, u7, u8, u9, u10, u11, u12, u13, u14, u15, u16, u17, u18, u19, rfl, e1⟩
      walk_at "go"
      exact k _
end
theorem facts {P : Program} {w : World} {K : PySem.W.Frag} {h : Heap} {mg : Str → Option Value} {f : Addr} (X : K.In h) (G : h.Ns mainGlobals mg) (hfa : mg ("law" : Str) = some (.ref f)) (S : SaysN fns ex K) :
    ∃ fd : FuncData, (∀ (s : Shared) (v : Value), BindsTo s fd ⟨[v], []⟩ [("_law_script", v)]) ∧ ∀ base : Heap, K.In base → base.Ns mainGlobals mg → FnOk P w K mg base (L2.CX P w) 5 f fd ["_law_script"] (sp_law K) := by
  have c3 : ((fxB fxs K && (fyB fys K && fzB fzs K)) && (nobB K)) = true := S.more
  rw [Bool.and_eq_true] at c3
  obtain ⟨c3, cm⟩ := c3
  have c1 : (fxB fxs K && (fyB fys K && fzB fzs K)) = true := c3
  have c0 : (fxB fxs K && (fyB fys K && fzB fzs K)) = true := c1
  rw [Bool.and_eq_true, Bool.and_eq_true] at c0
  obtain ⟨c, cy, cz⟩ := c0
  obtain ⟨fd_BadSum___init__, F_BadSum___init__⟩ := S.def_ 0 (d := d_BadSum___init__) rfl
  obtain ⟨fd_law_seed, F_law_seed⟩ := S.def_ 1 (d := d_law_seed) rfl
  obtain ⟨fd_law_take, F_law_take⟩ := S.def_ 2 (d := d_law_take) rfl
  obtain ⟨fd_law_of, F_law_of⟩ := S.def_ 3 (d := d_law_of) rfl
  obtain ⟨fd_is_number, F_is_number⟩ := S.def_ 4 (d := d_is_number) rfl
  obtain ⟨fd_read_sum, F_read_sum⟩ := S.def_ 5 (d := d_read_sum) rfl
  obtain ⟨fd_Sum___init__, F_Sum___init__⟩ := S.def_ 6 (d := d_Sum___init__) rfl
  obtain ⟨fd_law_names, F_law_names⟩ := S.def_ 7 (d := d_law_names) rfl
  obtain ⟨fd_sum_of, F_sum_of⟩ := S.def_ 8 (d := d_sum_of) rfl
  obtain ⟨fd_law_terms, F_law_terms⟩ := S.def_ 9 (d := d_law_terms) rfl
  obtain ⟨fd_law_sum_text, F_law_sum_text⟩ := S.def_ 10 (d := d_law_sum_text) rfl
  obtain ⟨fd_law_value, F_law_value⟩ := S.def_ 11 (d := d_law_value) rfl
  obtain ⟨fd_Sum___str__, F_Sum___str__⟩ := S.def_ 12 (d := d_Sum___str__) rfl
  obtain ⟨fd_Sum___call__, F_Sum___call__⟩ := S.def_ 13 (d := d_Sum___call__) rfl
  obtain ⟨fd_law_integer, F_law_integer⟩ := S.def_ 14 (d := d_law_integer) rfl
  obtain ⟨fd_Sum_mentions, F_Sum_mentions⟩ := S.def_ 15 (d := d_Sum_mentions) rfl
  obtain ⟨fd_law_values, F_law_values⟩ := S.def_ 16 (d := d_law_values) rfl
  obtain ⟨fd_law, F_law⟩ := S.def_ 17 (d := d_law) rfl
  have T : Txt K mg := ⟨fx_free X G c 12, fx_free X G c 13, fx_free X G c 14, fx_free X G c 15, fx_free X G c 17, fx_free X G c 18, fx_free X G c 19, fx_free X G c 20, fx_free X G c 21, fx_free X G c 22, fx_free X G c 24, fx_free X G c 25, fx_int X G c 1, ⟨_, fx_glo X G c 0, rfl⟩, fx_glo X G c 0, ⟨_, fx_glo X G c 2, rfl⟩, fx_glo X G c 2, fx_cls c 30, fx_noat c 32, fx_noat c 33, cm⟩
  have e := hfa.symm.trans (fx_glo X G c 40)
  cases e
  have b_BadSum___init__ := FunD.bindsN (ps := ["self", "at"]) F_BadSum___init__ fun _ _ _ _ _ _ us hl => match us, hl with | [_, _], _ => rfl
  have b_law_seed := FunD.bindsN (ps := ["_law_script", "_law_at"]) F_law_seed fun _ _ _ _ _ _ us hl => match us, hl with | [_, _], _ => rfl
  have b_law_take := FunD.bindsN (ps := ["_law_bag", "_law_many"]) F_law_take fun _ _ _ _ _ _ us hl => match us, hl with | [_, _], _ => rfl
  have b_law_of := FunD.bindsN (ps := ["_law_bag", "_law_some"]) F_law_of fun _ _ _ _ _ _ us hl => match us, hl with | [_, _], _ => rfl
  have b_is_number := FunD.bindsN (ps := ["token"]) F_is_number fun _ _ _ _ _ _ us hl => match us, hl with | [_], _ => rfl
  have b_read_sum := FunD.bindsN (ps := ["tokens", "start", "names"]) F_read_sum fun _ _ _ _ _ _ us hl => match us, hl with | [_, _, _], _ => rfl
  have b_Sum___init__ := FunD.bindsN (ps := ["self", "text", "names"]) F_Sum___init__ fun _ _ _ _ _ _ us hl => match us, hl with | [_, _, _], _ => rfl
  have b_law_names := FunD.bindsN (ps := ["_law_bag", "_law_many"]) F_law_names fun _ _ _ _ _ _ us hl => match us, hl with | [_, _], _ => rfl
  have b_sum_of := FunD.bindsN (ps := ["terms", "values"]) F_sum_of fun _ _ _ _ _ _ us hl => match us, hl with | [_, _], _ => rfl
  have b_law_terms := FunD.bindsN (ps := ["_law_bag", "_law_names_here", "_law_many"]) F_law_terms fun _ _ _ _ _ _ us hl => match us, hl with | [_, _, _], _ => rfl
  have b_law_sum_text := FunD.bindsN (ps := ["_law_terms_here"]) F_law_sum_text fun _ _ _ _ _ _ us hl => match us, hl with | [_], _ => rfl
  have b_law_value := FunD.bindsN (ps := ["_law_terms_here", "_law_values_here"]) F_law_value fun _ _ _ _ _ _ us hl => match us, hl with | [_, _], _ => rfl
  have b_Sum___str__ := FunD.bindsN (ps := ["self"]) F_Sum___str__ fun _ _ _ _ _ _ us hl => match us, hl with | [_], _ => rfl
  have b_Sum___call__ := FunD.bindsN (ps := ["self", "values"]) F_Sum___call__ fun _ _ _ _ _ _ us hl => match us, hl with | [_, _], _ => rfl
  have b_law_integer := FunD.bindsN (ps := ["_law_thing"]) F_law_integer fun _ _ _ _ _ _ us hl => match us, hl with | [_], _ => rfl
  have b_Sum_mentions := FunD.bindsN (ps := ["self"]) F_Sum_mentions fun _ _ _ _ _ _ us hl => match us, hl with | [_], _ => rfl
  have b_law_values := FunD.bindsN (ps := ["_law_bag", "_law_names_here"]) F_law_values fun _ _ _ _ _ _ us hl => match us, hl with | [_, _], _ => rfl
  have b_law := FunD.bindsN (ps := ["_law_script"]) F_law fun _ _ _ _ _ _ us hl => match us, hl with | [_], _ => rfl
  have bA := FunD.bindsA (ps := ["_law_script"]) F_law fun _ _ _ _ _ _ us hl => match us, hl with | [_], _ => rfl
  refine ⟨fd_law, fun s v => bA s [v] rfl, fun base _ _ => ?_⟩
  have X_BadSum : XC P w K mg base 1 "BadSum" "at" (He.ga K "BadSum") := ⟨fx_glo X G c 0, fx_oex c 27, fx_noat c 29, _, fd_BadSum___init__, _, (fx_fnI c 28).1, (fx_fnI c 28).2, b_BadSum___init__, ok_BadSum___init__ F_BadSum___init__ (fx_oex c 27) (fx_noat c 29)⟩
  have C_law_seed : Cal P w K mg base 1 "_law_seed" ["_law_script", "_law_at"] (sp_law_seed K) := ⟨_, fd_law_seed, fx_glo X G c 6, F_law_seed.kp, b_law_seed, ok_law_seed (P := P) (w := w) (base := base) F_law_seed T ⟩
  have C_law_take : Cal P w K mg base 1 "_law_take" ["_law_bag", "_law_many"] (sp_law_take K) := ⟨_, fd_law_take, fx_glo X G c 8, F_law_take.kp, b_law_take, ok_law_take (P := P) (w := w) (base := base) F_law_take T ⟩
  have C_is_number : Cal P w K mg base 1 "is_number" ["token"] (sp_is_number K) := ⟨_, fd_is_number, fx_glo X G c 16, F_is_number.kp, b_is_number, ok_is_number (P := P) (w := w) (base := base) F_is_number T ⟩
  have C_sum_of : Cal P w K mg base 1 "sum_of" ["terms", "values"] (sp_sum_of K) := ⟨_, fd_sum_of, fx_glo X G c 26, F_sum_of.kp, b_sum_of, ok_sum_of (P := P) (w := w) (base := base) F_sum_of T ⟩
  have C_law_sum_text : Cal P w K mg base 1 "_law_sum_text" ["_law_terms_here"] (sp_law_sum_text K) := ⟨_, fd_law_sum_text, fx_glo X G c 7, F_law_sum_text.kp, b_law_sum_text, ok_law_sum_text (P := P) (w := w) (base := base) F_law_sum_text T ⟩
  have C_law_value : Cal P w K mg base 1 "_law_value" ["_law_terms_here", "_law_values_here"] (sp_law_value K) := ⟨_, fd_law_value, fx_glo X G c 10, F_law_value.kp, b_law_value, ok_law_value (P := P) (w := w) (base := base) F_law_value T ⟩
  have N_Sum___str__ : MtC P w K mg base 1 (He.ga K "Sum") "__str__" ["self"] (sp_Sum___str__ K) := ⟨fx_cls c 30, _, fd_Sum___str__, fx_meth c 34, fx_fnF c 35, b_Sum___str__, ok_Sum___str__ (P := P) (w := w) (base := base) F_Sum___str__ T ⟩
  have C_law_integer : Cal P w K mg base 1 "_law_integer" ["_law_thing"] (sp_law_integer K) := ⟨_, fd_law_integer, fx_glo X G c 3, F_law_integer.kp, b_law_integer, ok_law_integer (P := P) (w := w) (base := base) F_law_integer T ⟩
  have N_Sum_mentions : MtC P w K mg base 1 (He.ga K "Sum") "mentions" ["self"] (sp_Sum_mentions K) := ⟨fx_cls c 30, _, fd_Sum_mentions, fx_meth c 38, fx_fnF c 39, b_Sum_mentions, ok_Sum_mentions (P := P) (w := w) (base := base) F_Sum_mentions T ⟩
  have C_law_of : Cal P w K mg base 2 "_law_of" ["_law_bag", "_law_some"] (sp_law_of K) := ⟨_, fd_law_of, fx_glo X G c 5, F_law_of.kp, b_law_of, ok_law_of (P := P) (w := w) (base := base) F_law_of T C_law_take⟩
  have R_law_of : OfC P w K mg base 2 "_law_of" := ⟨_, fx_glo X G c 5, F_law_of.kp, ofr_law_of (P := P) (w := w) (base := base) F_law_of b_law_of T C_law_take⟩
  have C_read_sum : Cal P w K mg base 2 "read_sum" ["tokens", "start", "names"] (sp_read_sum K) := ⟨_, fd_read_sum, fx_glo X G c 23, F_read_sum.kp, b_read_sum, ok_read_sum (P := P) (w := w) (base := base) F_read_sum T C_is_number⟩
  have N_Sum___call__ : MtC P w K mg base 2 (He.ga K "Sum") "__call__" ["self", "values"] (sp_Sum___call__ K) := ⟨fx_cls c 30, _, fd_Sum___call__, fx_meth c 36, fx_fnF c 37, b_Sum___call__, ok_Sum___call__ (P := P) (w := w) (base := base) F_Sum___call__ T C_sum_of⟩
  have M_Sum : MkC P w K mg base 3 "Sum" (He.ga K "Sum") ["self", "text", "names"] (sp_Sum___init__ K) := ⟨fx_glo X G c 2, _, fd_Sum___init__, fx_mkr c 31, b_Sum___init__, ok_Sum___init__ (P := P) (w := w) (base := base) F_Sum___init__ T C_read_sum X_BadSum⟩
  have C_law_names : Cal P w K mg base 3 "_law_names" ["_law_bag", "_law_many"] (sp_law_names K) := ⟨_, fd_law_names, fx_glo X G c 4, F_law_names.kp, b_law_names, ok_law_names (P := P) (w := w) (base := base) F_law_names T C_law_of C_law_take⟩
  have C_law_terms : Cal P w K mg base 3 "_law_terms" ["_law_bag", "_law_names_here", "_law_many"] (sp_law_terms K) := ⟨_, fd_law_terms, fx_glo X G c 9, F_law_terms.kp, b_law_terms, ok_law_terms (P := P) (w := w) (base := base) F_law_terms T C_law_of C_law_take⟩
  have C_law_values : Cal P w K mg base 3 "_law_values" ["_law_bag", "_law_names_here"] (sp_law_values K) := ⟨_, fd_law_values, fx_glo X G c 11, F_law_values.kp, b_law_values, ok_law_values (P := P) (w := w) (base := base) F_law_values T C_law_of C_law_take⟩
  exact ok_law (P := P) (w := w) (base := base) F_law T C_law_integer C_law_names C_law_of C_law_seed C_law_sum_text C_law_take C_law_terms C_law_value C_law_values N_Sum___call__ M_Sum N_Sum_mentions R_law_of N_Sum___str__
end NL
open PySem PySem.W PySem.Calls PyProof.Rows
set_option maxHeartbeats 0 in
theorem PySem.Challenge.cw_nowlater_k01_sums_holds : PySem.Challenge.rw_nowlater_k01_sums.Holds := by
  refine NL.early ?hc
  case hc =>
    refine LamX.walk_ofTsE (l := PySem.Challenge.rw_nowlater_k01_sums) (n := 63) (k := 5) (x := "_law_script") (CX := fun w => L2.CX (PySem.Challenge.rw_nowlater_k01_sums).prog w) rfl (by decide) (by kernel_rfl) ⟨rfl, by decide, by decide⟩ ?F NL.hCX
    intro w mg fa h Y G hmg0
    obtain ⟨K, KX, S⟩ := Y
    have hmg : mg ("law" : PySem.Str) = some (.ref fa) := by
      have e : (HandSHeadRun.topDef NL.RR.prog 19).name = ("law" : PySem.Str) := by kernel_rfl
      rw [← e]
      exact hmg0
    obtain ⟨fd, hb, hF⟩ := NL.facts (P := (PySem.Challenge.rw_nowlater_k01_sums).prog) (w := w) KX G hmg S
    exact ⟨K, KX, fd, [], NL.sp_law K, (fun _ z => nomatch z), (fun _ z => nomatch z), (fun _ z => nomatch z), hb, fun H a ns hl hbits _ hS => ⟨a, ns, rfl, hS, hl, hbits, fun _ => rfl⟩, fun base h1 h2 _ => hF base h1 h2⟩
#print axioms PySem.Challenge.cw_nowlater_k01_sums_holds
