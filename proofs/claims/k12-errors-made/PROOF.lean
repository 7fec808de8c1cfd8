import PyProof.Rows.All
import Wide.All
import OpenK.AllK
import Wide.FinOn
import HandS.ForMost
import HandS.ForExc
import HandS.Flow
import HandS.Wide
import HandS.IsInst
import HandS.ExcIs
import HandS.ExcField
import HandS.RaiseMore
import HandS.Star
import HandS.EndBits
import HandS.Walk
import HandS.NoneIn
import HandS.ExcInit
import KE.KExcInit
import PyProof.ExcBaseAll.LookupError
import PyProof.ExcBaseAll.RuntimeError
import KE.KExcIs
import KE.KStateDown
import Lean
import HandS.Defaults
import HandS.Head0
import HandS.Head1
import HandS.Head2
import HandS.HeadEnd
import HandS.HeadHook1
import HandS.HeadHook2
import HandS.HeadHook3
import HandS.HeadHook4
import HandS.EndTab
import HandS.HeadWalk
import PyProof.RulesMatch
import KE.KCallOwn
import HandS.Dict
import HandS.Strs
import HandS.Sort
import HandS.TupAny
import HandS.HeadNt
import HandS.ClsMeth
import HandS.CallLocal
import HandS.Conv
import HandS.Codes
import KE.KUnpackStar
import HandS.Style
import HandS.More
import PyProof.ListStr
import HandS.TupLen
import HandS.Zip
import HandS.TryOnly
import HandS.MakeKw
import HandS.MakeKwOnly
import KE.GoesEnum
import HandS.ExcOwn
import KE.KDictCopyH
import KE.KDictOf
import HandS.TryElse
import PyProof.ReprRoads
import PySem.Challenge.RW_nowlater_k12_errors_made
set_option Elab.async false
set_option linter.all false
set_option maxRecDepth 100000
set_option maxHeartbeats 4000000
namespace NL
open PySem L2

/-! ### step lemmas: one a reading -/
section
variable {σ : L2.St} {H : Hp} {D : Ends} {i : Nat} {v : V} {Q : VK} {QB : Bool → Hp → Prop} {QA : List V → Hp → Prop}
theorem g_var (e : σ[i]? = some (some v)) (h : Q v H) : tVar i σ H Q := ⟨v, e, h⟩
theorem g_c (h : Q v H) : tC v σ H Q := h
theorem g_op {r : R2} {ta tb : TE} (h : ta σ H fun x H1 => tb σ H1 fun y H2 => r x y H2 Q) : tOp r ta tb σ H Q := h
theorem g_un {r : V → Hp → VK → Prop} {ta : TE} (h : ta σ H fun x H1 => r x H1 Q) : tUn r ta σ H Q := h
theorem g_test {te : TE} (h : te σ H fun x H' => ∃ k, x = .bl k ∧ QB k H') : tTest te σ H QB := h
theorem g_tb {te : TE} (h : te σ H fun x H' => ∃ k, x = .bl k ∧ QB k H') : tB te σ H QB := h
theorem g_bl {b : Bool} {PB : Bool → Prop} (h : PB b) : ∃ k, V.bl b = .bl k ∧ PB k := ⟨b, rfl, h⟩
theorem g_not {t : TT} (h : t σ H fun c H1 => QB (!c) H1) : tNot t σ H QB := h
theorem g_and {t u : TT} (h : t σ H fun c H1 => if c = true then u σ H1 QB else QB false H1) : tAnd t u σ H QB := h
theorem g_or {t u : TT} (h : t σ H fun c H1 => if c = true then QB true H1 else u σ H1 QB) : tOr t u σ H QB := h
theorem g_andT {K : PySem.W.Frag} {ta tb : TE} (h : ta σ H fun x H1 => ∃ k, TruV K x H1 k ∧ if k = true then tb σ H1 Q else Q x H1) : tAndT K ta tb σ H Q := h
theorem g_orT {K : PySem.W.Frag} {ta tb : TE} (h : ta σ H fun x H1 => ∃ k, TruV K x H1 k ∧ if k = true then Q x H1 else tb σ H1 Q) : tOrT K ta tb σ H Q := h
theorem g_notT {K : PySem.W.Frag} {ta : TE} (h : ta σ H fun x H1 => ∃ k, TruV K x H1 k ∧ Q (.bl (!k)) H1) : tNotT K ta σ H Q := h
theorem g_ifE {t : TT} {ta tb : TE} (h : t σ H fun c H1 => if c = true then ta σ H1 Q else tb σ H1 Q) : tIf t ta tb σ H Q := h
theorem g_cb {r : List V → Hp → VK → Prop} {t : TA} (h : t σ H fun vs H1 => r vs H1 Q) : tCB r t σ H Q := h
theorem g_nil (h : QA [] H) : tNil σ H QA := h
theorem g_cons {ta : TE} {tr : TA} (h : ta σ H fun x H1 => tr σ H1 fun xs H2 => QA (x :: xs) H2) : tCons ta tr σ H QA := h
theorem g_callS {sp : Sp} {E : L2.St → XK} {t : TA} (h : t σ H fun vs H1 => sp vs H1 Q (E σ)) : tCallS sp E t σ H Q := h
/-- statements; the ends by places -/
theorem g_seq {t u : TS} {nx : L2.St → Hp → Prop} {rt : VK} {bk ct : L2.St → Hp → Prop} (h : t ⟨u ⟨nx, rt, bk, ct⟩, rt, bk, ct⟩ σ H) : tSeq t u ⟨nx, rt, bk, ct⟩ σ H := h
theorem g_next {nx : L2.St → Hp → Prop} {rt : VK} {bk ct : L2.St → Hp → Prop} (h : nx σ H) : tNext ⟨nx, rt, bk, ct⟩ σ H := h
theorem g_brk {nx : L2.St → Hp → Prop} {rt : VK} {bk ct : L2.St → Hp → Prop} (h : bk σ H) : tBreak ⟨nx, rt, bk, ct⟩ σ H := h
theorem g_cont {nx : L2.St → Hp → Prop} {rt : VK} {bk ct : L2.St → Hp → Prop} (h : ct σ H) : tCont ⟨nx, rt, bk, ct⟩ σ H := h
theorem g_asg {te : TE} {g : TG} {nx : L2.St → Hp → Prop} {rt : VK} {bk ct : L2.St → Hp → Prop} (h : te σ H fun x H1 => g x σ H1 nx) : tAsg te g ⟨nx, rt, bk, ct⟩ σ H := h
theorem g_drop {te : TE} {nx : L2.St → Hp → Prop} {rt : VK} {bk ct : L2.St → Hp → Prop} (h : te σ H fun _ H1 => nx σ H1) : tDrop te ⟨nx, rt, bk, ct⟩ σ H := h
theorem g_ret {te : TE} {nx : L2.St → Hp → Prop} {rt : VK} {bk ct : L2.St → Hp → Prop} (h : te σ H rt) : tRet te ⟨nx, rt, bk, ct⟩ σ H := h
theorem g_retN {nx : L2.St → Hp → Prop} {rt : VK} {bk ct : L2.St → Hp → Prop} (h : rt .non H) : tRetN ⟨nx, rt, bk, ct⟩ σ H := h
theorem g_ifS {c : TT} {t u : TS} (h : c σ H fun b H1 => if b = true then t D σ H1 else u D σ H1) : tIfS c t u D σ H := h
theorem g_name {QS : L2.St → Hp → Prop} (h : QS (σ.set i (some v)) H) : gName i v σ H QS := h
theorem g_nameE {σ' : L2.St} {QS : L2.St → Hp → Prop} (e : σ.set i (some v) = σ') (h : QS σ' H) : gName i v σ H QS := by subst e; exact h
theorem wipe_nil (σ : L2.St) : wipe σ [] = σ := rfl
theorem wipe_cons (σ : L2.St) (i : Nat) (r : List Nat) : wipe σ (i :: r) = (wipe σ r).set i none := rfl
theorem g_sub {QS : L2.St → Hp → Prop} {to ti : TE} {t : TSet} (h : to σ H fun o H1 => ti σ H1 fun i H2 => t o i v H2 fun H3 => QS σ H3) : gSub to ti t v σ H QS := h
theorem g_augE {x : V} {te : TE} {ti : TIp} {nx : L2.St → Hp → Prop} {rt : VK} {bk ct : L2.St → Hp → Prop} (e : σ[i]? = some (some x)) (h : te σ H fun y H1 => ti x y H1 fun z H2 => gName i z σ H2 nx) : tAug i te ti ⟨nx, rt, bk, ct⟩ σ H := ⟨x, e, h⟩
/-- a tuple or a list unpacked -/
def gTL (K : PySem.W.Frag) (n : Nat) (t : TGs) : TG := fun v σ H Q => ∃ a xs, v = .ref a ∧ (SqT K H a xs ∨ SqL K H a xs) ∧ xs.length = n ∧ t xs σ H Q
theorem g_gtup {K : PySem.W.Frag} {n : Nat} {t : TGs} {a : Addr} {xs : List V} {QS : L2.St → Hp → Prop} (h1 : SqT K H a xs) (h2 : xs.length = n) (h : t xs σ H QS) : gTL K n t (.ref a) σ H QS := ⟨a, xs, rfl, .inl h1, h2, h⟩
theorem g_gcons {t : TG} {u : TGs} {r : List V} {QS : L2.St → Hp → Prop} (h : t v σ H fun σ' H' => u r σ' H' QS) : gCons t u (v :: r) σ H QS := ⟨v, r, rfl, h⟩
theorem g_gnil {QS : L2.St → Hp → Prop} (h : QS σ H) : gNil [] σ H QS := ⟨rfl, h⟩
theorem g_lst {t : TA} (h : t σ H fun xs H1 => xs.length ≤ sizeLine ∧ ∀ p, H1 p = none → Q (.ref p) (upd H1 p (.lst xs))) : tLst t σ H Q := h
theorem g_tup {t : TA} (h : t σ H fun xs H1 => xs.length ≤ sizeLine ∧ ∀ p, H1 p = none → Q (.ref p) (upd H1 p (.tup xs))) : tTup t σ H Q := h
theorem g_ite {b : Bool} {A B : Prop} (h1 : b = true → A) (h2 : b = false → B) : if b = true then A else B := by
  cases b
  · exact iteF (h2 rfl)
  · exact iteT (h1 rfl)
theorem g_iteD {c A B : Prop} [Decidable c] (h1 : c → A) (h2 : ¬ c → B) : if decide c = true then A else B :=
  g_ite (fun e => h1 (of_decide_eq_true e)) fun e => h2 (of_decide_eq_false e)
end

/-! ### rules by the values' own kinds -/
theorem opR_imp {X : Cx} {f : Value → Value → Sem Value} {r r' : R2} (h : OpR X f r) (i : ∀ x y H Q, r' x y H Q → r x y H Q) : OpR X f r' := fun pins s σ H x y v u Q I rx ry q => h pins s σ H x y v u Q I rx ry (i x y H Q q)
def dAdd : R2 := fun x y H Q => match x, y with
  | .int i, .int j => Q (.int (i + j)) H
  | .str a, .str b => a.length + b.length ≤ sizeLine ∧ Q (.str (a ++ b)) H
  | .ref p, .ref q => ∃ xs ys, H p = some (.lst xs) ∧ H q = some (.lst ys) ∧ xs.length + ys.length ≤ sizeLine ∧ ∀ l, H l = none → Q (.ref l) (upd H l (.lst (xs ++ ys)))
  | _, _ => False
theorem op_dAdd {X : Cx} : OpR X (binaryOp .Add) dAdd := by
  intro pins s σ H x y v u Q I rx ry h
  cases x <;> cases y <;> first
    | exact op_add pins s σ H _ _ v u Q I rx ry ⟨_, _, rfl, rfl, h⟩
    | exact op_add_str pins s σ H _ _ v u Q I rx ry ⟨_, _, rfl, rfl, h.1, h.2⟩
    | (obtain ⟨xs, ys, h1, h2, h3, h4⟩ := h
       exact op_cat pins s σ H _ _ v u Q I rx ry ⟨_, _, _, _, rfl, rfl, h1, h2, h3, h4⟩)
    | exact (show False from h).elim
def dSub : R2 := fun x y H Q => match x, y with
  | .int i, .int j => Q (.int (i - j)) H
  | _, _ => False
theorem op_dSub {X : Cx} : OpR X (binaryOp .Sub) dSub := opR_imp op_sub fun x y H Q h => by
  cases x <;> cases y <;> first
    | exact ⟨_, _, rfl, rfl, h⟩
    | exact (show False from h).elim
def dMul : R2 := fun x y H Q => match x, y with
  | .int i, .int j => (CMul i j ∨ CMulW i j) ∧ Q (.int (i * j)) H
  | .ref p, .int k => ∃ xs, H p = some (.lst xs) ∧ -(2 ^ 63) ≤ k ∧ k < 2 ^ 63 ∧ xs.length * k.toNat ≤ sizeLine ∧ ∀ l, H l = none → Q (.ref l) (upd H l (.lst (List.replicate k.toNat xs).flatten))
  | .str a, .int n => MulOk a n ∧ Q (.str (Txt.mul a n)) H
  | _, _ => False
theorem op_mulS {X : Cx} : OpR X (binaryOp .Mult) (fun x y H Q => ∃ a n, x = .str a ∧ y = .int n ∧ MulOk a n ∧ Q (.str (Txt.mul a n)) H) := by
  intro pins s σ H x y v u Q I rx ry h
  obtain ⟨a, n, rfl, rfl, h1, h2⟩ := h
  obtain ⟨t, rfl⟩ := (show ∃ t, v = Value.str a t from rx)
  obtain ⟨t2, rfl⟩ := (show ∃ t, u = Value.int n t from ry)
  exact SB.mul h1 fun t' k => ⟨.str (Txt.mul a n), H, I.tok k, ⟨t', rfl⟩, h2⟩
def dMod : R2 := fun x y H Q => match x, y with
  | .int i, .int j => 0 < j ∧ Q (.int (i % j)) H
  | _, _ => False
theorem op_dMod {X : Cx} : OpR X (binaryOp .Mod) dMod := opR_imp op_mod fun x y H Q h => by
  cases x <;> cases y <;> first
    | exact ⟨_, _, rfl, rfl, h.1, h.2⟩
    | exact (show False from h).elim
def dDiv : R2 := fun x y H Q => match x, y with
  | .int i, .int j => (0 < j ∧ j.natAbs.log2 < 9000) ∧ Q (.int (i / j)) H
  | _, _ => False
theorem op_dDiv {X : Cx} : OpR X (binaryOp .FloorDiv) dDiv := opR_imp op_fdivW fun x y H Q h => by
  cases x <;> cases y <;> first
    | exact ⟨_, _, rfl, rfl, h.1, h.2⟩
    | exact (show False from h).elim
theorem op_dMul {X : Cx} : OpR X (binaryOp .Mult) dMul := by
  intro pins s σ H x y v u Q I rx ry h
  cases x <;> cases y <;> first
    | (rcases h with ⟨h | h, q⟩
       · exact op_mul pins s σ H _ _ v u Q I rx ry ⟨_, _, rfl, rfl, h, q⟩
       · exact op_mulW pins s σ H _ _ v u Q I rx ry ⟨_, _, rfl, rfl, h, q⟩)
    | (obtain ⟨xs, h1, h2, h3, h4, h5⟩ := h
       exact op_rep pins s σ H _ _ v u Q I rx ry ⟨_, _, _, rfl, rfl, h1, h2, h3, h4, h5⟩)
    | exact op_mulS pins s σ H _ _ v u Q I rx ry ⟨_, _, rfl, rfl, h⟩
    | exact (show False from h).elim
def dPow : R2 := fun x y H Q => match x, y with
  | .int i, .int j => CPow i j ∧ Q (.int (i ^ j.toNat)) H
  | _, _ => False
theorem op_dPow {X : Cx} : OpR X (binaryOp .Pow) dPow := opR_imp op_pow fun x y H Q h => by
  cases x <;> cases y <;> first
    | exact ⟨_, _, rfl, rfl, h.1, h.2⟩
    | exact (show False from h).elim
/-- comparisons of ints -/
def dCmp (f : Int → Int → Bool) : R2 := fun x y H Q => match x, y with
  | .int i, .int j => Q (.bl (f i j)) H
  | _, _ => False
abbrev dLt := dCmp fun i j => decide (i < j)
abbrev dLe := dCmp fun i j => decide (i ≤ j)
abbrev dGt := dCmp fun i j => decide (j < i)
abbrev dGe := dCmp fun i j => decide (j ≤ i)
theorem dCmp_imp {f : Int → Int → Bool} (x y : V) (H : Hp) (Q : VK) (h : dCmp f x y H Q) : (rI0 fun i j => .bl (f i j)) x y H Q := by
  cases x <;> cases y <;> first
    | exact ⟨_, _, rfl, rfl, h⟩
    | exact (show False from h).elim
theorem op_dLt {X : Cx} : OpR X (compareOp .Lt) dLt := opR_imp op_lt dCmp_imp
theorem op_dLe {X : Cx} : OpR X (compareOp .LtE) dLe := opR_imp op_le dCmp_imp
theorem op_dGt {X : Cx} : OpR X (compareOp .Gt) dGt := opR_imp op_gt dCmp_imp
theorem op_dGe {X : Cx} : OpR X (compareOp .GtE) dGe := opR_imp op_ge dCmp_imp
/-- == and != : scalars, or data -/
def dEq (K : PySem.W.Frag) : R2 := fun x y H Q => rEq x y H Q ∨ rEqD K x y H Q
def dNe (K : PySem.W.Frag) : R2 := fun x y H Q => rNe x y H Q ∨ rNeD K x y H Q
theorem op_dNe0 {X : Cx} (hu : X.A.units + 64 < cLine) : OpR X (compareOp .NotEq) (dNe X.K) := OpR.or op_ne (op_neD hu)
/-- in, not in: one sign in a text; a flat thing in a list or tuple -/
def dIn (K : PySem.W.Frag) : R2 := fun x y H Q => match y with
  | .str z => ∃ c : Nat, x = .str ⟨#[c]⟩ ∧ Q (.bl (decide (c ∈ z.cps.toList))) H
  | .ref p => ∃ xs, (SqL K H p xs ∨ SqT K H p xs) ∧ flatV x = true ∧ xs.all flatV = true ∧ Q (.bl (inV x xs)) H
  | _ => False
def dNotIn (K : PySem.W.Frag) : R2 := fun x y H Q => match y with
  | .str z => ∃ c : Nat, x = .str ⟨#[c]⟩ ∧ Q (.bl (!decide (c ∈ z.cps.toList))) H
  | .ref p => ∃ xs, (SqL K H p xs ∨ SqT K H p xs) ∧ flatV x = true ∧ xs.all flatV = true ∧ Q (.bl (!inV x xs)) H
  | _ => False
def dIs : R2 := fun x y H Q => match y with
  | .non => Q (.bl (decide (x = .non))) H
  | _ => False
def dIsNot : R2 := fun x y H Q => match y with
  | .non => Q (.bl (!decide (x = .non))) H
  | _ => False
/-! ### built-in calls -/
def dLen (K : PySem.W.Frag) : List V → Hp → VK → Prop := fun xs H Q => match xs with
  | [.str y] => y.length ≤ sizeLine ∧ Q (.int y.length) H
  | [.ref p] => ∃ ys, (SqL K H p ys ∨ SqT K H p ys) ∧ Q (.int ys.length) H
  | _ => False
theorem cl_len0 {X : Cx} : CallR X (.builtin "len") (dLen X.K) := by
  intro pins s σ H xs us Q I r h
  match xs, h with
  | [.str y], h => exact call_len_str pins s σ H _ us Q I r ⟨y, rfl, h.1, h.2⟩
  | [.ref p], h =>
    obtain ⟨ys, h1, q⟩ := h
    exact call_len_seq pins s σ H _ us Q I r ⟨p, ys, rfl, h1, q⟩
def dInt : List V → Hp → VK → Prop := fun xs H Q => match xs with
  | [.int i] => Q (.int i) H
  | [.bl k] => Q (.int (if k then 1 else 0)) H
  | [.str a] => ∃ n, PySem.intText? a = some n ∧ a.length ≤ 640 ∧ Q (.int n) H
  | _ => False
theorem cl_int {X : Cx} : CallR X (.type "int") dInt := by
  intro pins s σ H xs us Q I r h
  match xs, h with
  | [.int i], h => exact call_int1 pins s σ H _ us Q I r (.inl ⟨i, rfl, h⟩)
  | [.bl k], h => exact call_int1 pins s σ H _ us Q I r (.inr ⟨k, rfl, h⟩)
  | [.str a], h =>
    obtain ⟨n, h1, h2, q⟩ := h
    exact call_int_str pins s σ H _ us Q I r ⟨a, n, rfl, h1, h2, q⟩
def dStr : List V → Hp → VK → Prop := fun xs H Q => match xs with
  | [.int i] => i.natAbs.log2 < 1920 ∧ Q (.str (toString i)) H
  | [.str a] => Q (.str a) H
  | _ => False
def dAbs : List V → Hp → VK → Prop := fun xs H Q => match xs with
  | [.int i] => Q (.int (if i < 0 then -i else i)) H
  | _ => False
theorem cl_abs {X : Cx} : CallR X (.builtin "abs") dAbs := by
  intro pins s σ H xs us Q I r h
  match xs, h with
  | [.int i], h => exact call_abs pins s σ H _ us Q I r ⟨i, rfl, h⟩
def dMax : List V → Hp → VK → Prop := fun xs H Q => match xs with
  | [.int i, .int j] => Q (.int (if j > i then j else i)) H
  | _ => False
theorem cl_max {X : Cx} (hc : X.calm = true) : CallR X (.builtin "max") dMax := by
  intro pins s σ H xs us Q I r h
  match xs, h with
  | [.int i, .int j], h => exact call_max2 hc pins s σ H _ us Q I r ⟨i, j, rfl, h⟩
def dMin : List V → Hp → VK → Prop := fun xs H Q => match xs with
  | [.int i, .int j] => Q (.int (if j < i then j else i)) H
  | _ => False
theorem cl_min {X : Cx} (hc : X.calm = true) : CallR X (.builtin "min") dMin := by
  intro pins s σ H xs us Q I r h
  match xs, h with
  | [.int i, .int j], h => exact call_min2 hc pins s σ H _ us Q I r ⟨i, j, rfl, h⟩
def dList (K : PySem.W.Frag) : List V → Hp → VK → Prop := fun xs H Q => match xs with
  | [.ref p] => ∃ ys, (SqL K H p ys ∨ SqT K H p ys) ∧ ∀ l, H l = none → Q (.ref l) (upd H l (.lst ys))
  | _ => False
/-! ### subscripts, slices -/
def dIx (K : PySem.W.Frag) : R2 := fun x y H Q => match x, y with
  | .ref p, .int i => ∃ xs v, (SqL K H p xs ∨ SqT K H p xs) ∧ atI xs i = some v ∧ Q v H
  | .str z, .int i => ∃ c, z.length ≤ sizeLine ∧ atI z.cps.toList i = some c ∧ Q (.str ⟨#[c]⟩) H
  | _, _ => False
theorem ix_dyn0 {X : Cx} : IxR X (dIx X.K) := by
  intro value slice pins s σ H x y v u Q I rx ry h hs
  refine ix_seq value slice pins s σ H x y v u Q I rx ry ?_ hs
  cases x <;> cases y <;> first
    | (obtain ⟨xs, w, h1 | h1, h2, q⟩ := h
       · exact .inl ⟨_, xs, _, w, rfl, rfl, h1, h2, q⟩
       · exact .inr (.inl ⟨_, xs, _, w, rfl, rfl, h1, h2, q⟩))
    | (obtain ⟨c, h1, h2, q⟩ := h
       exact .inr (.inr ⟨_, _, c, rfl, rfl, h1, h2, q⟩))
    | exact (show False from h).elim
def dSl (K : PySem.W.Frag) : V → Option Int → Option Int → Hp → VK → Prop := fun x lo hi H Q => match x with
  | .ref p => ∃ xs, SqL K H p xs ∧ ∀ l, H l = none → Q (.ref l) (upd H l (.lst (cutV xs lo hi)))
  | .str z => z.length ≤ sizeLine ∧ Q (.str (cutS z lo hi)) H
  | _ => False
theorem sl_dyn0 {X : Cx} : SlR X (dSl X.K) := by
  intro pins s σ H x v vl vu lo hi sl Q I rx hs pl pu h
  cases x with
  | ref p =>
    obtain ⟨xs, h1, q⟩ := h
    exact sl_list pins s σ H _ v vl vu lo hi sl Q I rx hs pl pu ⟨p, xs, rfl, h1, q⟩
  | str z => exact sl_str pins s σ H _ v vl vu lo hi sl Q I rx hs pl pu ⟨z, rfl, h.1, h.2⟩
  | _ => exact (show False from h).elim
section
variable {X : Cx} (K : PySem.W.Frag)
theorem op_dNe (hu : X.A.units + 64 < cLine) (h : X.K = K := by rfl) : OpR X (compareOp .NotEq) (dNe K) := h ▸ op_dNe0 hu
theorem cl_len (h : X.K = K := by rfl) : CallR X (.builtin "len") (dLen K) := h ▸ cl_len0
theorem ix_dyn (h : X.K = K := by rfl) : IxR X (dIx K) := h ▸ ix_dyn0
theorem sl_dyn (h : X.K = K := by rfl) : SlR X (dSl K) := h ▸ sl_dyn0
end
/-! ### the forms that gen.py writes -/
section
variable {X : Cx} {x : Str} {e : Expr} {es : List Expr} {te : TE} {t : TA} {pos pos' p : Pos}
theorem q_set (i : Nat) (hN : X.N.Nodup) (he : PE X e te) (hi : X.N[i]? = some x := by rfl) (hx : Loc X.env.scope x := by first | exact Or.inl rfl | exact Or.inr rfl)
    (hs : swapsWith e (some (.Name x pos')) pos.line X.env = pure false := by rfl) (hf : X.fn x = true ∨ X.env.scope.names.lookup x = some .local := by first | exact .inl rfl | exact .inr rfl) :
    PS X (.Assign [.Name x pos'] e pos) (tAsg te (gName i)) := ps_set hN hi hx he hs hf
theorem q_name (i : Nat) (hN : X.N.Nodup) (hi : X.N[i]? = some x := by rfl) (hx : Loc X.env.scope x := by first | exact Or.inl rfl | exact Or.inr rfl)
    (hf : X.fn x = true ∨ X.env.scope.names.lookup x = some .local := by first | exact .inl rfl | exact .inr rfl) : PG X (.Name x pos) (gName i) := pg_name hN hi hx hf
/-- a module's name and its value -/
def GV (mg : Str → Option Value) (x : Str) (v : V) : Prop := ∃ u, mg x = some u ∧ RelV v u
theorem q_glob {v : V} (h : GV X.mg x v) (hg : Gl X x := by rfl) (hd : (x == ("__debug__" : Str)) = false := by decide) : PE X (.Name x pos) (tC v) := by
  obtain ⟨u, h1, h2⟩ := h
  exact pe_glob hg h1 h2 hd
/-- a def of the module: where it stands, how it binds, what it promises -/
structure Cal (P : Program) (w : World) (K : PySem.W.Frag) (mg : Str → Option Value) (base : Heap) (k : Nat) (x : Str) (ps : List Str) (sp : Sp) : Prop where
  ex : ∃ f fd, mg x = some (.ref f) ∧ PySem.W.keepIn K (.ref f) = true ∧ Binds K fd ps [] ∧ FnOk P w K mg base (L2.CX P w) k f fd ps sp
theorem q_call {W : WX} {k : Nat} {ps : List Str} {sp : Sp} (C : Cal X.prog X.w X.K X.mg X.base k x ps sp) (tk : Takes X W) (hr : Room k X.A) (ha : PA X (e :: es) t) (hg : Gl X x := by rfl) (hdb : (x == ("__debug__" : Str)) = false := by decide)
    (he : starEach (e :: es) X.env = (false, eval e X.env) :: starEach es X.env := by rfl) (hpl : (backTo pos (starEach es X.env)).any (·.1) = false := by rfl) :
    PE X (.Call (.Name x p) (e :: es) [] pos) (tCallS sp (WE W) t) := by
  obtain ⟨f, fd, h1, h2, h3, h4⟩ := C.ex
  exact pe_callS h4 hr hg h1 h2 h3 (fun σ => passAt tk σ) ha hdb he hpl
end

/-! ### step lemmas of the rules by kinds -/
section
variable {K : PySem.W.Frag} {H : Hp} {Q : VK} {i j : Int} {a b : Str} {p : Addr} {xs : List V} {v : V} {k : Bool}
theorem g_add_i (h : Q (.int (i + j)) H) : dAdd (.int i) (.int j) H Q := h
theorem g_sub_i (h : Q (.int (i - j)) H) : dSub (.int i) (.int j) H Q := h
theorem g_mul_i (z : CMul i j ∨ CMulW i j) (h : Q (.int (i * j)) H) : dMul (.int i) (.int j) H Q := ⟨z, h⟩
theorem g_mod_i (z : 0 < j) (h : Q (.int (i % j)) H) : dMod (.int i) (.int j) H Q := ⟨z, h⟩
theorem g_div_i (z : 0 < j ∧ j.natAbs.log2 < 9000) (h : Q (.int (i / j)) H) : dDiv (.int i) (.int j) H Q := ⟨z, h⟩
theorem g_pow_i (z : CPow i j) (h : Q (.int (i ^ j.toNat)) H) : dPow (.int i) (.int j) H Q := ⟨z, h⟩
theorem g_cmp_i {f : Int → Int → Bool} (h : Q (.bl (f i j)) H) : dCmp f (.int i) (.int j) H Q := h
theorem dec_i : decide (V.int i = V.int j) = decide (i = j) := by simp
theorem dec_s : decide (V.str a = V.str b) = decide (a = b) := by simp
theorem dec_b {c d : Bool} : decide (V.bl c = V.bl d) = decide (c = d) := by simp
theorem g_eq_i (h : Q (.bl (decide (i = j))) H) : dEq K (.int i) (.int j) H Q := .inl ⟨rfl, by rw [dec_i]; exact h⟩
theorem g_eq_s (h : Q (.bl (decide (a = b))) H) : dEq K (.str a) (.str b) H Q := .inl ⟨rfl, by rw [dec_s]; exact h⟩
theorem g_eq_b {c d : Bool} (h : Q (.bl (decide (c = d))) H) : dEq K (.bl c) (.bl d) H Q := .inl ⟨rfl, by rw [dec_b]; exact h⟩
theorem g_ne_i (h : Q (.bl (!decide (i = j))) H) : dNe K (.int i) (.int j) H Q := .inl ⟨rfl, by rw [dec_i]; exact h⟩
theorem g_ne_s (h : Q (.bl (!decide (a = b))) H) : dNe K (.str a) (.str b) H Q := .inl ⟨rfl, by rw [dec_s]; exact h⟩
theorem g_ne_b {c d : Bool} (h : Q (.bl (!decide (c = d))) H) : dNe K (.bl c) (.bl d) H Q := .inl ⟨rfl, by rw [dec_b]; exact h⟩
theorem g_len_s (z : a.length ≤ sizeLine) (h : Q (.int a.length) H) : dLen K [.str a] H Q := ⟨z, h⟩
theorem g_len_l (z : SqL K H p xs ∨ SqT K H p xs) (h : Q (.int xs.length) H) : dLen K [.ref p] H Q := ⟨xs, z, h⟩
theorem g_int_i (h : Q (.int i) H) : dInt [.int i] H Q := h
theorem g_str_s (h : Q (.str a) H) : dStr [.str a] H Q := h
theorem g_abs (h : Q (.int (if i < 0 then -i else i)) H) : dAbs [.int i] H Q := h
theorem g_max (h : Q (.int (if j > i then j else i)) H) : dMax [.int i, .int j] H Q := h
theorem g_min (h : Q (.int (if j < i then j else i)) H) : dMin [.int i, .int j] H Q := h
theorem g_ix_l (z1 : SqL K H p xs ∨ SqT K H p xs) (z2 : atI xs i = some v) (h : Q v H) : dIx K (.ref p) (.int i) H Q := ⟨xs, v, z1, z2, h⟩
theorem g_setL {QH : Hp → Prop} {n : Nat} (z1 : H p = some (.lst xs)) (z2 : ixN xs.length i = some n) (h : QH (upd H p (.lst (xs.set n v)))) : rSetL (.ref p) (.int i) v H QH := ⟨p, xs, i, n, rfl, rfl, z1, z2, h⟩
theorem g_isN (h : Q (.bl (decide (v = .non))) H) : dIs v .non H Q := h
theorem g_isNotN (h : Q (.bl (!decide (v = .non))) H) : dIsNot v .non H Q := h
end
theorem bt_len : bootBuiltins "len" = some (.builtin "len") := by decide +kernel
theorem bt_abs : bootBuiltins "abs" = some (.builtin "abs") := by decide +kernel
theorem bt_max : bootBuiltins "max" = some (.builtin "max") := by decide +kernel
theorem bt_min : bootBuiltins "min" = some (.builtin "min") := by decide +kernel
theorem bt_isinstance : bootBuiltins "isinstance" = some (.builtin "isinstance") := by decide +kernel
theorem bt_repr : bootBuiltins "repr" = some (.builtin "repr") := by decide +kernel
theorem bt_int : bootBuiltins "int" = some (.type "int") := by decide +kernel
theorem bt_ValueError : bootBuiltins "ValueError" = some (.type "ValueError") := by decide +kernel
theorem bt_LookupError : bootBuiltins "LookupError" = some (.type "LookupError") := by decide +kernel
theorem bt_RuntimeError : bootBuiltins "RuntimeError" = some (.type "RuntimeError") := by decide +kernel
theorem bt_Exception : bootBuiltins "Exception" = some (.type "Exception") := by decide +kernel
theorem q_bltn {X : Cx} {x : Str} {n : String} {pos : Pos} (hm : X.mg x = none) (hv : bootBuiltins x = some (.type n)) (hg : Gl X x := by rfl) (hn : x ≠ "__name__" := by decide) (hd : (x == ("__debug__" : Str)) = false := by decide) : PE X (.Name x pos) (tC (.ty n)) :=
  pe_bltn hg hm hv rfl hn hd
/-! ### loops -/
def Loop (J : It) (g : TG) (tb : TS) (D : Ends) (σ : L2.St) (H : Hp) : Prop := ∃ W : Nat → Nat → L2.St → Hp → Prop, (∃ m, W 0 m σ H) ∧ ∀ i m σ H, W i m σ H →
  (J.stop i H ∧ D.nx σ H) ∨ (J.go i H ∧ ∃ N : L2.St → Hp → Prop, (∀ σ' H', N σ' H' → ∃ m', m' < m ∧ W (i + 1) m' σ' H') ∧ ∀ x H', J.yld i H x H' → g x σ H' fun σ2 H2 => tb { D with nx := N, ct := N, bk := D.nx } σ2 H2)
def LoopC (J : It) (g : TG) (tt : TT) (te : TE) (vs : List Nat) (σ : L2.St) (H1 : Hp) (D : Addr) (Qd : Hp → Prop) : Prop := ∃ W : Nat → Nat → Hp → Prop, (∃ m, W 0 m (upd H1 D (.lst []))) ∧ ∀ i m H, W i m H →
  (J.stop i H ∧ Qd H) ∨ (J.go i H ∧ ∃ Nx : Hp → Prop, (∀ H', Nx H' → ∃ m', m' < m ∧ W (i + 1) m' H') ∧ ∀ x H', J.yld i H x H' → g x (wipe σ vs) H' fun σ2 H2 => wipe σ2 vs = wipe σ vs ∧ tt σ2 H2 fun b H3 =>
    if b = true then te σ2 H3 fun y H4 => ∃ acc, H4 D = some (.lst acc) ∧ acc.length < sizeLine ∧ Nx (upd H4 D (.lst (acc ++ [y]))) else Nx H3)
section
variable {σ : L2.St} {H : Hp} {K : PySem.W.Frag} {R : It → Hp → Prop} {p : Addr} {xs ys : List V} {te : TE} {ta : TA}
theorem g_for {wi : TI} {g : TG} {tb : TS} {D : Ends} (h : wi σ H fun J H1 => Loop J g tb D σ H1) : tFor wi g tb D σ H := h
theorem g_lc {wi : TI} {g : TG} {tt : TT} {te : TE} {vs : List Nat} {Q : VK} (h : wi σ H fun J H1 => ∀ D, H1 D = none → LoopC J g tt te vs σ H1 D fun H' => Q (.ref D) H') : tLc wi g tt te vs σ H Q := h
theorem g_iL (h : te σ H fun x H1 => ∃ a, x = .ref a ∧ (∃ xs, SqL K H1 a xs) ∧ R (Itl K a) H1) : iList K te σ H R := h
theorem g_iL1 {Z : Addr → Prop} (z : SqL K H p xs) (h : Z p) : ∃ a, V.ref p = .ref a ∧ (∃ xs, SqL K H a xs) ∧ Z a := ⟨p, rfl, ⟨xs, z⟩, h⟩
theorem g_iT (h : te σ H fun x H1 => ∃ a, x = .ref a ∧ (∃ xs, SqT K H1 a xs) ∧ R (Itt K a) H1) : iTup K te σ H R := h
theorem g_iT1 {Z : Addr → Prop} (z : SqT K H p xs) (h : Z p) : ∃ a, V.ref p = .ref a ∧ (∃ xs, SqT K H a xs) ∧ Z a := ⟨p, rfl, ⟨xs, z⟩, h⟩
theorem g_iS (h : te σ H fun v H1 => ∃ x, v = .str x ∧ R (Its x) H1) : iStr te σ H R := h
theorem g_iS1 {Z : Str → Prop} {a : Str} (h : Z a) : ∃ x, V.str a = .str x ∧ Z x := ⟨a, rfl, h⟩
theorem g_iE (h : ta σ H fun vs H1 => ∃ a xs, vs = [.ref a] ∧ SqL K H1 a xs ∧ R (Ite K a) H1) : iEnum K ta σ H R := h
theorem g_iE1 {Z : Addr → Prop} (z : SqL K H p xs) (h : Z p) : ∃ a xs, [V.ref p] = [.ref a] ∧ SqL K H a xs ∧ Z a := ⟨p, xs, rfl, z, h⟩
theorem g_iR (h : ta σ H fun vs H1 => ∃ j : Int, vs = [.int j] ∧ -(2 ^ 62) ≤ j ∧ j < 2 ^ 62 ∧ R (Itr 0 j.toNat) H1) : iRng1 ta σ H R := h
theorem g_iR1 {j : Int} (z1 : -(2 ^ 62) ≤ j) (z2 : j < 2 ^ 62) {Z : Int → Prop} (h : Z j) : ∃ i : Int, [V.int j] = [.int i] ∧ -(2 ^ 62) ≤ i ∧ i < 2 ^ 62 ∧ Z i := ⟨j, rfl, z1, z2, h⟩
/-- the forms of loops: an invariant by the turn -/
theorem lp_it {J : It} {n : Nat} {G : Hp → Prop} {Y : Nat → Hp → V → Hp → Prop} (w : Walk J n G Y) {g : TG} {tb : TS} {nx : L2.St → Hp → Prop} {rt : VK} {bk ct : L2.St → Hp → Prop} (Pv : Nat → L2.St → Hp → Prop) (h0 : Pv 0 σ H) (hG : ∀ i σ H, i ≤ n → Pv i σ H → G H)
    (hs : ∀ i x σ H H', i < n → Pv i σ H → Y i H x H' → g x σ H' fun σ2 H2 => tb ⟨Pv (i + 1), rt, nx, Pv (i + 1)⟩ σ2 H2) (hd : ∀ σ H, Pv n σ H → nx σ H) : Loop J g tb ⟨nx, rt, bk, ct⟩ σ H := for_it w Pv h0 hG hs hd
theorem lc_by {J : It} {n : Nat} {G : Hp → Prop} {Y : Nat → Hp → V → Hp → Prop} (w : Walk J n G Y) {g : TG} {tt : TT} {te : TE} {vs : List Nat} {D : Addr} {Qd : Hp → Prop} (Pv : Nat → Hp → Prop) (h0 : Pv 0 (upd H D (.lst []))) (hG : ∀ i H, i ≤ n → Pv i H → G H)
    (hs : ∀ i x H H', i < n → Pv i H → Y i H x H' → g x (wipe σ vs) H' fun σ2 H2 => wipe σ2 vs = wipe σ vs ∧ tt σ2 H2 fun b H3 =>
      if b = true then te σ2 H3 fun y H4 => ∃ acc, H4 D = some (.lst acc) ∧ acc.length < sizeLine ∧ Pv (i + 1) (upd H4 D (.lst (acc ++ [y]))) else Pv (i + 1) H3) (hd : ∀ H, Pv n H → Qd H) : LoopC J g tt te vs σ H D Qd := lc_it w Pv h0 hG hs hd
theorem g_yes {QB : Bool → Hp → Prop} (h : QB true H) : tYes σ H QB := h
theorem g_sl {r : V → Option Int → Option Int → Hp → VK → Prop} {te : TE} {tl th : TO} {Q : VK} (h : te σ H fun x H1 => tl σ H1 fun l H2 => th σ H2 fun u H3 => r x l u H3 Q) : tSl r te tl th σ H Q := h
theorem g_noP {QO : Option Int → Hp → Prop} (h : QO none H) : tNoPart σ H QO := h
theorem g_part {QO : Option Int → Hp → Prop} {t : TE} (h : t σ H fun x H1 => ∃ i, x = .int i ∧ QO (some i) H1) : tPart t σ H QO := h
theorem g_int1 {i : Int} {Z : Int → Prop} (h : Z i) : ∃ j, V.int i = .int j ∧ Z j := ⟨i, rfl, h⟩
theorem g_slL {lo hi : Option Int} {Q : VK} (z : SqL K H p xs) (h : ∀ l, H l = none → Q (.ref l) (upd H l (.lst (cutV xs lo hi)))) : dSl K (.ref p) lo hi H Q := ⟨xs, z, h⟩
theorem g_listL {Q : VK} (z : SqL K H p xs ∨ SqT K H p xs) (h : ∀ l, H l = none → Q (.ref l) (upd H l (.lst xs))) : dList K [.ref p] H Q := ⟨xs, z, h⟩
theorem g_inL {x : V} {Q : VK} (z1 : SqL K H p xs ∨ SqT K H p xs) (z2 : flatV x = true) (z3 : xs.all flatV = true) (h : Q (.bl (inV x xs)) H) : dIn K x (.ref p) H Q := ⟨xs, z1, z2, z3, h⟩
theorem g_ninL {x : V} {Q : VK} (z1 : SqL K H p xs ∨ SqT K H p xs) (z2 : flatV x = true) (z3 : xs.all flatV = true) (h : Q (.bl (!inV x xs)) H) : dNotIn K x (.ref p) H Q := ⟨xs, z1, z2, z3, h⟩
theorem g_inS {c : Nat} {z : Str} {Q : VK} (h : Q (.bl (decide (c ∈ z.cps.toList))) H) : dIn K (.str ⟨#[c]⟩) (.str z) H Q := ⟨c, rfl, h⟩
theorem g_ninS {c : Nat} {z : Str} {Q : VK} (h : Q (.bl (!decide (c ∈ z.cps.toList))) H) : dNotIn K (.str ⟨#[c]⟩) (.str z) H Q := ⟨c, rfl, h⟩
theorem g_bm {T : String} {r : V → List V → Hp → VK → Prop} {to : TE} {t : TA} {Q : VK} (h : to σ H fun x H1 => tyV K T x H1 ∧ t σ H1 fun xs H2 => r x xs H2 Q) : tBM K T r to t σ H Q := h
theorem g_bm0 {T : String} {r : V → List V → Hp → VK → Prop} {to : TE} {Q : VK} (h : to σ H fun x H1 => tyV K T x H1 ∧ r x [] H1 Q) : tBM0 K T r to σ H Q := h
theorem g_app {v : V} {Q : VK} (z1 : H p = some (.lst xs)) (z2 : xs.length < sizeLine) (h : Q .non (upd H p (.lst (xs ++ [v])))) : rAppend (.ref p) [v] H Q := ⟨p, xs, v, rfl, rfl, z1, z2, h⟩
theorem g_fld {ta : TE} {f : Str} {Q : VK} (h : ta σ H fun x H1 => ∃ a C dx fs v, x = .ref a ∧ H1 a = some (.ins C dx fs) ∧ Cls K C ∧ NoAttr K C f ∧ fs.lookup f = some v ∧ Q v H1) : tFld K ta f σ H Q := h
theorem g_sfld {ta tv : TE} {f : Str} {nx : L2.St → Hp → Prop} {rt : VK} {bk ct : L2.St → Hp → Prop} (h : tv σ H fun y H1 => ta σ H1 fun x H2 => ∃ a C dx fs, x = .ref a ∧ H2 a = some (.ins C dx fs) ∧ Cls K C ∧ NoAttr K C f ∧ fs.length < 1000 ∧ nx σ (upd H2 a (.ins C dx (putF f y fs)))) :
    sFld K ta tv f ⟨nx, rt, bk, ct⟩ σ H := h
theorem tyL {xs : List V} (z : SqL K H p xs) : tyV K "list" (.ref p) H := .inl ⟨rfl, xs, z⟩
theorem g_tyL {B : Prop} (z : SqL K H p xs) (h : B) : tyV K "list" (.ref p) H ∧ B := ⟨tyL z, h⟩
theorem g_tyS {B : Prop} {a : Str} (h : B) : tyV K "str" (.str a) H ∧ B := ⟨rfl, h⟩
theorem tru_b {b : Bool} {Z : Bool → Prop} (h : Z b) : ∃ k, TruV K (.bl b) H k ∧ Z k := ⟨b, rfl, h⟩
theorem tru_i {i : Int} {Z : Bool → Prop} (h : Z (i != 0)) : ∃ k, TruV K (.int i) H k ∧ Z k := ⟨_, rfl, h⟩
theorem tru_n {Z : Bool → Prop} (h : Z false) : ∃ k, TruV K .non H k ∧ Z k := ⟨_, rfl, h⟩
end
/-! ### heaps that keep what they had, but at some places -/
def Sx (W : List Addr) (H H' : Hp) : Prop := ∀ a o, a ∉ W → H a = some o → H' a = some o
theorem Sx.refl {W : List Addr} (H : Hp) : Sx W H H := fun _ _ _ h => h
theorem Sx.trans {W : List Addr} {H H1 H2 : Hp} (a : Sx W H H1) (b : Sx W H1 H2) : Sx W H H2 := fun c o h e => b c o h (a c o h e)
theorem Sx.of {W : List Addr} {H H' : Hp} (h : Same H H') : Sx W H H' := fun a o _ e => h a o e
theorem Sx.same {H H' : Hp} (h : Sx [] H H') : Same H H' := fun a o e => h a o (by simp) e
theorem Sx.new {W : List Addr} {H H' : Hp} {p : Addr} {o : HO} (h : Sx W H H') (n : H' p = none) : Sx W H (upd H' p o) := fun a u w e => by
  have q := h a u w e
  rw [upd_ne (ne_of_none q n)]; exact q
theorem Sx.mut {W : List Addr} {H H' : Hp} {p : Addr} {o : HO} (h : Sx W H H') (n : H p = none) : Sx W H (upd H' p o) := fun a u w e => by
  rw [upd_ne (ne_of_none e n)]; exact h a u w e
theorem Sx.put {W : List Addr} {H H' : Hp} {p : Addr} {o : HO} (h : Sx W H H') (n : p ∈ W) : Sx W H (upd H' p o) := fun a u w e => by
  rw [upd_ne (show a ≠ p from fun z => w (by rw [z]; exact n))]; exact h a u w e
theorem Sx.mono {W W' : List Addr} {H H' : Hp} (h : Sx W H H') (i : ∀ a ∈ W, a ∈ W') : Sx W' H H' := fun a o w e => h a o (fun z => w (i a z)) e
theorem Sx.free {W : List Addr} {H H' : Hp} {p : Addr} (h : Sx W H H') (w : p ∉ W) (n : H' p = none) : H p = none := by
  cases q : H p with
  | none => rfl
  | some o => rw [h p o w q] at n; cases n
theorem Sx.get1 {b a : Addr} {o : HO} {H H' : Hp} (h : Sx [b] H H') (n : a ≠ b) (e : H a = some o) : H' a = some o := h a o (by simpa using n) e
theorem _root_.L2.Same.new {H H' : Hp} {p : Addr} {o : HO} (h : Same H H') (n : H' p = none) : Same H (upd H' p o) := fun a u e => by
  have q := h a u e
  rw [upd_ne (ne_of_none q n)]; exact q
theorem _root_.L2.Same.mut {H H' : Hp} {p : Addr} {o : HO} (h : Same H H') (n : H p = none) : Same H (upd H' p o) := fun a u e => by
  rw [upd_ne (ne_of_none e n)]; exact h a u e
/-! ### the same rules, the written part by its letter -/
section
variable {X : Cx} (K : PySem.W.Frag) {e o : Expr} {es : List Expr} {te ta tv : TE} {t : TA} {tg : Expr} {pos pos' p tpos apos cpos : Pos}
theorem q_list (he : PE X e te) (h : X.K = K := by rfl) : PI X tg e (iList K te) := h ▸ pi_list he
theorem q_enum {elts : List Expr} {kk : Nat} (hm : X.mg "enumerate" = none) (ha : PA X [e] t) (hg : Gl X "enumerate" := by rfl) (hs : starEach [e] X.env = [(false, eval e X.env)] := by rfl) (h : X.K = K := by rfl) :
    PI X (.Tuple elts kk tpos) (.Call (.Name "enumerate" p) [e] [] pos) (iEnum K t) := h ▸ pi_enum hg hm ha hs
theorem q_gtup (n : Nat) {k : Nat} {ts : TGs} (h : PGs X es ts) (hc : X.calm = true := by rfl) (hn : (assignEach es X.env).length = n := by rfl) (hst : (assignEach es X.env).findIdx? (·.1) = none := by rfl) (hK : X.K = K := by rfl) :
    PG X (.Tuple es k pos) (gTL K n ts) := by
  subst hK
  refine ⟨fun pins s σ H v u Q I r q => ?_⟩
  obtain ⟨a, xs, e, h1 | h1, h2, h3⟩ := q
  · exact (pg_tup hc h hn hst).run pins s σ H v u Q I r ⟨a, xs, e, h1, h2, h3⟩
  · exact (pg_unl hc h hn hst).run pins s σ H v u Q I r ⟨a, xs, e, h1, h2, h3⟩
theorem q_truth (ha : PE X e ta) (he : ∀ whole, isTrue e X.env whole = (do let v ← whole; standAt e.pos; holding [v] (truthy v)) := by intro _; rfl) (h : X.K = K := by rfl) :
    PT X e (fun σ H Q => ta σ H fun x H' => ∃ k, TruV K x H' k ∧ Q k H') := h ▸ pt_truth ha he
section
variable {name : Str} {T id : String} {r : V → List V → Hp → VK → Prop} {to : TE}
theorem q_bm (pa : PlainAttrs T) (slot : Slot T name id) (hty : typeOf (.builtin id) = pure (.type "method_descriptor")) (hm : MtR X id r) (ho : PE X o to) (ha : PA X (e :: es) t)
    (hbase : attributeBase o name X.env (eval o X.env) = eval o X.env := by rfl)
    (hfew : ((backTo cpos (starEach (e :: es) X.env)).all (fun x => !x.1) && (backToKw cpos (keywordEach [] X.env)).all (fun x => x.1.isSome)
      && decide ((e :: es).length + ([] : List Keyword).length + (if ([] : List Keyword).isEmpty then 0 else 1) < 30)) = true := by rfl)
    (hline : (apos.endLine == cpos.line) = true := by rfl) (hs : starEach (e :: es) X.env = (false, eval e X.env) :: starEach es X.env := by rfl) (hplain : (backTo cpos (starEach es X.env)).any (·.1) = false := by rfl) (h : X.K = K := by rfl) :
    PE X (.Call (.Attribute o name apos) (e :: es) [] cpos) (tBM K T r to t) := h ▸ pe_bm pa slot hty hm ho ha hbase hfew hline hs hplain
end
theorem m_append : MtR X "list.append" rAppend := mt_append
def dJoin (K : PySem.W.Frag) : V → List V → Hp → VK → Prop := fun x xs H Q => ∃ a p, ∃ ys : List Str, x = .str a ∧ xs = [.ref p] ∧ (SqL K H p (ys.map V.str) ∨ SqT K H p (ys.map V.str)) ∧ (ys.map (·.length)).sum + ys.length * a.length ≤ 16777216 ∧ Q (.str (Txt.join a ys)) H
def dWords : V → List V → Hp → VK → Prop := fun x xs H Q => ∃ a, x = .str a ∧ xs = [] ∧ a.length + 2 ≤ sizeLine ∧ ∀ p, H p = none → Q (.ref p) (upd H p (.lst ((Txt.words a).map V.str)))
def dSplit : V → List V → Hp → VK → Prop := fun x xs H Q => ∃ a b, x = .str a ∧ xs = [.str b] ∧ (b.length == 0) = false ∧ a.length + 2 ≤ sizeLine ∧ ∀ p, H p = none → Q (.ref p) (upd H p (.lst ((Txt.split a b).map V.str)))
end
section
variable {K : PySem.W.Frag} {H : Hp} {Q : VK} {a b : Str} {p : Addr} {ys : List Str}
theorem g_join (z1 : SqL K H p (ys.map V.str) ∨ SqT K H p (ys.map V.str)) (z2 : (ys.map (·.length)).sum + ys.length * a.length ≤ 16777216) (h : Q (.str (Txt.join a ys)) H) : dJoin K (.str a) [.ref p] H Q := ⟨a, p, ys, rfl, rfl, z1, z2, h⟩
theorem g_words (z : a.length + 2 ≤ sizeLine) (h : ∀ p, H p = none → Q (.ref p) (upd H p (.lst ((Txt.words a).map V.str)))) : dWords (.str a) [] H Q := ⟨a, rfl, rfl, z, h⟩
theorem g_split (z1 : (b.length == 0) = false) (z : a.length + 2 ≤ sizeLine) (h : ∀ p, H p = none → Q (.ref p) (upd H p (.lst ((Txt.split a b).map V.str)))) : dSplit (.str a) [.str b] H Q := ⟨a, b, rfl, rfl, z1, z, h⟩
theorem g_start {t : TS} {D : Ends} {σ σ' : L2.St} {H : Hp} (e : σ = σ') (h : t D σ' H) : t D σ H := e ▸ h
end
/-- what comes behind, once for all: R is found where it is used -/
theorem g_all {α : Type} {R : α → Prop} {G : Prop} (main : (∀ c, R c) → G) (rest : ∀ c, R c) : G := main rest
theorem hp_same {H H' : Hp} {a : Addr} {o : HO} (s : Same H H') (e : H a = some o) : H' a = some o := s a o e
theorem hp_sx {W : List Addr} {H H' : Hp} {a : Addr} {o : HO} (s : Sx W H H') (n : a ∉ W) (e : H a = some o) : H' a = some o := s a o n e
theorem al {n : Nat} {B : Prop} (h : B) (z : Nat.ble n 16777216 = true := by rfl) : n ≤ sizeLine ∧ B := ⟨by rw [sizeLine_eq]; exact Nat.le_of_ble_eq_true z, h⟩
theorem inV_str {t : Str} {xs : List Str} : inV (.str t) (xs.map V.str) = decide (t ∈ xs) := by
  induction xs with
  | nil => rfl
  | cons x r ih =>
    have e : inV (.str t) ((x :: r).map V.str) = (eqV (.str x) (.str t) || inV (.str t) (r.map V.str)) := rfl
    rw [e, ih]
    have e2 : eqV (.str x) (.str t) = decide (t = x) := by
      show (x == t) = decide (t = x)
      by_cases h : x = t
      · subst h; simp
      · rw [decide_eq_false (fun z => h z.symm)]; simpa using h
    rw [e2, Bool.eq_iff_iff]
    simp
theorem flat_strs (xs : List Str) : (xs.map V.str).all flatV = true := by simp [flatV]
theorem flat_ints (xs : List Int) : (xs.map V.int).all flatV = true := by simp [flatV]
theorem atI_of {α : Type} {xs : List α} {i : Nat} {v : α} (h : xs[i]? = some v) : atI xs (i : Int) = some v := by
  have hl : i < xs.length := (List.getElem?_eq_some_iff.mp h).1
  unfold atI ixN
  rw [if_pos (Int.natCast_nonneg i), if_pos (by omega)]
  show xs[(i : Int).toNat]? = some v
  rw [Int.toNat_natCast]; exact h
theorem atI_map {α : Type} {xs : List α} {f : α → V} {i : Nat} {v : α} (h : xs[i]? = some v) : atI (xs.map f) (i : Int) = some (f v) := atI_of (by rw [List.getElem?_map, h]; rfl)
theorem sqL_same {K : PySem.W.Frag} {H H' : Hp} {a : Addr} {xs : List V} (h : SqL K H a xs) (e : Same H H') : SqL K H' a xs := Same.seq e h
section
variable {K : PySem.W.Frag} {H : Hp} {Q : VK} {p : Addr}
theorem g_ip {f : Int → Int → Int} {i j : Int} (h : Q (.int (f i j)) H) : ipI f (.int i) (.int j) H Q := ⟨i, j, rfl, rfl, h⟩
theorem g_rU {g : Int → V} {i : Int} (h : Q (g i) H) : rU g (.int i) H Q := ⟨i, rfl, h⟩
theorem g_inLs {t : Str} {ns : List Str} (z1 : SqL K H p (ns.map V.str) ∨ SqT K H p (ns.map V.str)) (h : Q (.bl (decide (t ∈ ns))) H) : dIn K (.str t) (.ref p) H Q := ⟨_, z1, rfl, flat_strs ns, by rw [inV_str]; exact h⟩
theorem g_ninLs {t : Str} {ns : List Str} (z1 : SqL K H p (ns.map V.str) ∨ SqT K H p (ns.map V.str)) (h : Q (.bl (!decide (t ∈ ns))) H) : dNotIn K (.str t) (.ref p) H Q := ⟨_, z1, rfl, flat_strs ns, by rw [inV_str]; exact h⟩
end
section
variable {K : PySem.W.Frag} {H : Hp} {p C dx : Addr} {fs : List (Str × V)} {f : Str} {v : V}
theorem g_gf {Z : V → Prop} (z1 : H p = some (.ins C dx fs)) (z2 : Cls K C) (z3 : NoAttr K C f) (z4 : fs.lookup f = some v) (h : Z v) : ∃ a C dx fs v, V.ref p = .ref a ∧ H a = some (.ins C dx fs) ∧ Cls K C ∧ NoAttr K C f ∧ fs.lookup f = some v ∧ Z v := ⟨p, C, dx, fs, v, rfl, z1, z2, z3, z4, h⟩
theorem g_sf {Z : Hp → Prop} (z1 : H p = some (.ins C dx fs)) (z2 : Cls K C) (z3 : NoAttr K C f) (z4 : fs.length < 1000) (h : Z (upd H p (.ins C dx (putF f v fs)))) :
    ∃ a C dx fs, V.ref p = .ref a ∧ H a = some (.ins C dx fs) ∧ Cls K C ∧ NoAttr K C f ∧ fs.length < 1000 ∧ Z (upd H a (.ins C dx (putF f v fs))) := ⟨p, C, dx, fs, rfl, z1, z2, z3, z4, h⟩
end
/-! ### data: lists of texts, of ints compared -/
section
variable {K : PySem.W.Frag} {H : Hp} {Q : VK} {p q : Addr}
theorem dp_strs (xs : List Str) : DpAll K H (xs.map V.str) (xs.map PyData.str) := by
  induction xs with
  | nil => exact .nil
  | cons x r ih => exact .cons (.str x) ih
theorem dp_ints (xs : List Int) : DpAll K H (xs.map V.int) (xs.map PyData.int) := by
  induction xs with
  | nil => exact .nil
  | cons x r ih => exact .cons (.int x) ih
theorem lay_all {ds : List PyData} (h : ∀ d ∈ ds, d.canLay0 = true ∧ d.depth ≤ 60) : PyData.canLayAll0 ds = true ∧ PyData.depthAll ds ≤ 60 := by
  induction ds with
  | nil => exact ⟨rfl, by simp [PyData.depthAll]⟩
  | cons d r ih =>
    obtain ⟨h1, h2⟩ := h d (List.mem_cons_self ..)
    obtain ⟨h3, h4⟩ := ih fun e he => h e (List.mem_cons_of_mem _ he)
    exact ⟨by simp [PyData.canLayAll0, h1, h3], by simp only [PyData.depthAll]; omega⟩
theorem shaped_list {ds : List PyData} (h : ∀ d ∈ ds, d.canLay0 = true ∧ d.depth ≤ 60) : SeqAt.shaped (.list ds) = true := by
  obtain ⟨h1, h2⟩ := lay_all h
  simp only [SeqAt.shaped, PyData.canLay0, PyData.depth, h1, Bool.true_and]
  exact decide_eq_true (by omega)
/-- texts of signs that are signs -/
def Sok (xs : List Str) : Prop := ∀ x ∈ xs, PyData.strOk x = true
theorem shaped_strs {xs : List Str} (h : Sok xs) : SeqAt.shaped (.list (xs.map PyData.str)) = true := shaped_list fun d hd => by
  obtain ⟨x, hx, rfl⟩ := List.mem_map.mp hd
  exact ⟨by simp only [PyData.canLay0]; exact h x hx, by simp [PyData.depth]⟩
theorem shaped_ints (xs : List Int) : SeqAt.shaped (.list (xs.map PyData.int)) = true := shaped_list fun d hd => by
  obtain ⟨x, _, rfl⟩ := List.mem_map.mp hd
  exact ⟨by simp only [PyData.canLay0], by simp [PyData.depth]⟩
theorem eqv_strs : ∀ (xs ys : List Str), PyData.eqvAll (xs.map PyData.str) (ys.map PyData.str) = decide (xs = ys)
  | [], [] => rfl
  | [], y :: ys => by simp [PyData.eqvAll]
  | x :: xs, [] => by simp [PyData.eqvAll]
  | x :: xs, y :: ys => by
    simp only [List.map_cons, PyData.eqvAll, PyData.eqv, eqv_strs xs ys]
    rw [Bool.eq_iff_iff]
    simp
theorem eqv_ints : ∀ (xs ys : List Int), PyData.eqvAll (xs.map PyData.int) (ys.map PyData.int) = decide (xs = ys)
  | [], [] => rfl
  | [], y :: ys => by simp [PyData.eqvAll]
  | x :: xs, [] => by simp [PyData.eqvAll]
  | x :: xs, y :: ys => by
    simp only [List.map_cons, PyData.eqvAll, PyData.eqv, eqv_ints xs ys]
    rw [Bool.eq_iff_iff]
    simp
theorem g_neLs {xs ys : List Str} (s1 : Sok xs) (s2 : Sok ys) (z1 : SqL K H p (xs.map V.str)) (z2 : SqL K H q (ys.map V.str)) (h : Q (.bl (!decide (xs = ys))) H) : dNe K (.ref p) (.ref q) H Q :=
  .inr ⟨_, _, .lst z1 (dp_strs xs), .lst z2 (dp_strs ys), shaped_strs s1, shaped_strs s2, by simp only [PyData.eqv, eqv_strs]; exact h⟩
theorem g_neLi {xs ys : List Int} (z1 : SqL K H p (xs.map V.int)) (z2 : SqL K H q (ys.map V.int)) (h : Q (.bl (!decide (xs = ys))) H) : dNe K (.ref p) (.ref q) H Q :=
  .inr ⟨_, _, .lst z1 (dp_ints xs), .lst z2 (dp_ints ys), shaped_ints xs, shaped_ints ys, by simp only [PyData.eqv, eqv_ints]; exact h⟩
end
theorem iteNT {A B : Prop} (h : B) : if (!true) = true then A else B := iteF h
theorem iteNF {A B : Prop} (h : A) : if (!false) = true then A else B := iteT h
end NL
/-! own exception classes over any built-in one (ValueError, LookupError, RuntimeError) -/
namespace NL
open PySem L2
/-- own classes, then a given rest -/
def refsB (tl : List Value) : List Value → Bool
  | .ref _ :: r => refsB tl r
  | l => decide (l = tl)
theorem refsB_cut {tl : List Value} : ∀ {l : List Value}, refsB tl l = true → l = tl ∨ ∃ c r, l = .ref c :: r ∧ refsB tl r = true
  | [], h => .inl (of_decide_eq_true h)
  | a :: r, h => by
    cases a with
    | ref c => exact .inr ⟨c, r, rfl, h⟩
    | _ => exact .inl (of_decide_eq_true h)
theorem refsB_has {tl : List Value} (n : String) : ∀ {l : List Value}, refsB tl l = true → l.contains (.type n) = tl.contains (.type n) := fun {l} => by
  induction l with
  | nil => intro h; rcases refsB_cut h with e | ⟨_, _, e, _⟩
           · rw [← e]
           · cases e
  | cons a r ih =>
    intro h
    rcases refsB_cut h with e | ⟨c, q, e, h2⟩
    · rw [← e]
    · cases e
      rw [List.contains_cons, ih h2] <;> rfl
theorem refsB_goes {tl : List Value} {v : Value} (p : PySem.refuseLoop v "__setattr__" tl = pure ()) : ∀ {l : List Value}, refsB tl l = true → PySem.refuseLoop v "__setattr__" l = pure () := fun {l} => by
  induction l with
  | nil => intro h; rcases refsB_cut h with e | ⟨_, _, e, _⟩
           · rw [e]; exact p
           · cases e
  | cons a r ih =>
    intro h
    rcases refsB_cut h with e | ⟨c, q, e, h2⟩
    · rw [e]; exact p
    · cases e
      rw [PySem.refuseLoop_ref]
      exact ih h2
/-- what is known of a built-in exception class that an own one comes from -/
def BaseT (nw : String) (tl : List Value) : Prop := ∃ B ini, ExcBaseFacts B nw ini tl ∧ (∀ v : Value, PySem.refuseLoop v "__setattr__" tl = pure ()) ∧ tl.contains (.type "object") = true
theorem baseT_val : BaseT "ValueError.__new__" [.type "ValueError", .type "Exception", .type "BaseException", .type "object"] := ⟨_, _, F.excBase_ValueError, F.store_ValueError.passes, by decide +kernel⟩
theorem baseT_look : BaseT "LookupError.__new__" [.type "LookupError", .type "Exception", .type "BaseException", .type "object"] := ⟨_, _, F.excBase_LookupError, F.store_LookupError.passes, by decide +kernel⟩
theorem baseT_run : BaseT "RuntimeError.__new__" [.type "RuntimeError", .type "Exception", .type "BaseException", .type "object"] := ⟨_, _, F.excBase_RuntimeError, F.store_RuntimeError.passes, by decide +kernel⟩
/-- an own exception class with a dict -/
structure OexG (K : PySem.W.Frag) (C : Addr) : Prop where
  cls : ∃ nm q N bs bm sn sub ab col dd k0 k1 k2 k3 k5 nw tl, K.lookup C = some (excClassObj nm q C N bs bm true sn sub ab col dd k0 k1 k2 k3 k5 nw) ∧ refsB tl bm = true ∧ BaseT nw tl
  sa : PySem.W.findIn K (.ref C) "__setattr__" = some (some (.builtin "object.__setattr__"))
  exC : PySem.W.subIn K (.ref C) (.type "BaseException") = some true
  tyC : PySem.W.typeIn K (.ref C) = some (.type "type")
  kC : PySem.W.keepIn K (.ref C) = true
section
open Builtin Builtin.ObjectAttr
variable {P : Program} {w : World} {A : Around} {R : Result → Shared → Prop} {h : Heap} {gs : Array GenState} {dr : Drawn} {tk : Nat} {os : OsState}
/-- the first field of an exception -/
theorem osa_first {K : PySem.W.Frag} {f : Str} {ft : Tok} {u : Value} {x C : Addr} {fv : Array Value} {cd : ClassData} {tl : List Value} (kin : K.In h) (hx : h.get? x = some { cls := .ref C, data := .fields fv }) (hc : PySem.W.clsIn K C = some cd)
    (hm : refsB tl cd.mro = true) (p : PySem.refuseLoop (.ref x) "__setattr__" tl = pure ()) (ho : tl.contains (.type "object") = true) (hd : cd.hasDict = true) (na : PySem.W.findIn K (.ref C) f = some none)
    (k : ∀ h' t' dx, (∀ b o, b ≠ x → h.get? b = some o → h'.get? b = some o) → h.objs.size ≤ dx → dx ≠ x → h'.get? x = some { cls := .ref C, dict := some dx, data := .fields fv } → h'.Ns1 dx (fun y => if y = f then some u else none) → R (.ok (.ret .none)) ⟨h', gs, dr, t', os⟩) :
    codeAny (model P w) A (.call (.builtin "object.__setattr__") ⟨[.ref x, .str f ft, u], []⟩) R ⟨h, gs, dr, tk, os⟩ := by
  have J : PySem.W.InstAt h x { cls := .ref C, data := .fields fv } C none := ⟨hx, rfl, rfl, trivial⟩
  have O := F.store_object
  have hob : cd.mro.contains (.type "object") = true := (refsB_has "object" hm).trans ho
  have hne : cd.mro.isEmpty = false := by
    cases q : cd.mro with
    | nil => rw [q] at hob; cases hob
    | cons => rfl
  have far : x ≠ h.objs.size := Nat.ne_of_lt (Heap.lt_size hx)
  have isO : PySem.W.Looks (model P w) h (isInstance (.ref x) (.type "object")) true := J.type.andThen (PySem.W.looks_mroIn kin (by unfold PySem.W.mroIn; rw [hc, Option.bind_some, hne, if_neg Bool.false_ne_true, hob]))
  refine codeAny_call_builtin O.slot.plain O.entry (@PySem.W.check_slot (model P w) _ _ ⟨h, gs, dr, tk, os⟩ "object.__setattr__" "object" "__setattr__" (.ref x) [.str f ft, u] [] _ O.kind O.split isO (O.args (.ref x) (.str f ft) u) ?_)
  have m1 : PySem.W.Looks (model P w) h (mroOf (.ref C)) cd.mro := (PySem.W.looks_clsIn kin hc).andThen .now
  have m2 : PySem.W.Looks (model P w) h (storeTaker? none) none := .now
  have m3 : PySem.W.Looks (model P w) h (classData C) cd := PySem.W.looks_clsIn kin hc
  rw [PySem.W.osa_eq, refuse_eq]
  refine wpAny_bind (wpAny_bind (J.type.at (wpAny_bind (m1.at ?_))))
  rw [refsB_goes p hm]
  refine wpAny_pure (wpAny_bind (J.type.at (wpAny_bind ((PySem.W.looks_findIn kin na).at (wpAny_bind (m2.at ?_))))))
  show wpAny _ _ (storeInOwnDict (.ref x) (.ref C) (.str f ft) f u false) _ _ _
  obtain ⟨_, _, _, _, _, b, _, _, _, _, _⟩ := cd
  obtain rfl : b = true := hd
  unfold storeInOwnDict ownDictForStores
  repeat (first | with_reducible refine PySem.HandSPX.store_in_new ?_ ?_ | with_reducible refine wpAny_loadPart_at hx ?_ | with_reducible refine m3.at ?_ | wp_step)
  · exact ⟨_, #[], _, (Heap.get?_update_ne _ _ _ _ far.symm).trans (Heap.get?_push_at rfl rfl), rfl, (fun e z => absurd z (by simp)), fun _ => rfl⟩
  · intro h' t' n' sb
    have px : (h.push { cls := .type "dict", data := .dict #[] }).get? x = some { cls := .ref C, data := .fields fv } := Heap.get?_push_of_some _ hx
    exact k h' t' h.objs.size (fun b o hb e => (sb.2 b (Nat.ne_of_lt (Heap.lt_size e))).trans ((Heap.get?_update_ne _ _ _ _ hb).trans (Heap.get?_push_of_some _ e))) (Nat.le_refl _) far.symm ((sb.2 x far).trans (Heap.get?_update_self _ px rfl)) n'
end
section
variable {X : Cx} {pins : List (Addr × Obj)} {σ : L2.St} {H : Hp} {s : Shared} {a C : Addr} {f : Str} {y : V} {u : Value} {Q : Unit → Shared → Prop} {E : Value → Shared → Prop} {A : Around}
theorem clsIn_exc {K : PySem.W.Frag} {nm q : Str} {C N : Addr} {bs bm sub : List Value} {sn : List Str} {ab : Bool} {col : Option Bool} {dd : Option Addr} {k0 k1 k2 k3 k5 : Option Value} {nw : String} (e : K.lookup C = some (excClassObj nm q C N bs bm true sn sub ab col dd k0 k1 k2 k3 k5 nw)) :
    ∃ cd, PySem.W.clsIn K C = some cd ∧ cd.mro = .ref C :: bm ∧ cd.hasDict = true := by
  refine ⟨_, by unfold PySem.W.clsIn; rw [e] <;> rfl, rfl, rfl⟩
/-- self.f = y, the first one -/
theorem ost_first (T : OexG X.K C) (I : Inv X pins σ H s) (e : H a = some (exo a C none)) (hno : PySem.W.findIn X.K (.ref C) f = some none) (ry : RelV y u)
    (k : ∀ dx s', H dx = none → dx ≠ a → Inv X pins σ (upd (upd H dx (exd dx [(f, y)])) a (exo a C (some dx))) s' → Q () s') : wpAny (model X.prog X.w) A (setAttr (.ref a) f u) Q E s := by
  obtain ⟨nm, q, N, bs, bm, sn, sub, ab, col, dd, k0, k1, k2, k3, k5, nw, tl, hC, hbm, B, ini, FB, hp, hob⟩ := T.cls
  obtain ⟨cd, hcd, hmro, hdict⟩ := clsIn_exc hC
  obtain ⟨t1, at1⟩ := exo_at I.hok e
  obtain ⟨hh, gs, dr, tk, os⟩ := s
  refine PySem.W.set_plain I.kIn (ox := { cls := .ref C, dict := none, data := .fields #[.ref t1, .none, .none, .none, .bool false, .none] }) (od := none) ⟨at1, rfl, rfl, trivial⟩ T.sa ?_
  refine osa_first (tl := tl) I.kIn at1 hcd (by rw [hmro]; exact hbm) (hp _) hob hdict hno fun h' t' dx kp far ne hx hn => ?_
  have nD : H dx = none := I.hok.fresh far
  have offD : ∀ {b : Addr} {o : Obj}, hh.get? b = some o → b ≠ dx := fun z => Nat.ne_of_lt (Nat.lt_of_lt_of_le (Heap.lt_size z) far)
  have offA : ∀ {b : Addr}, H b = none → b ≠ a := fun n z => by rw [z, e] at n; cases n
  have U1 : Un X.fs [] H (upd (upd H dx (exd dx [(f, y)])) a (exo a C (some dx))) hh h' := {
    keep := fun b o z n _ _ => kp b o (offA n) z
    slot := fun b o z n _ _ => ⟨o.slots, kp b o (offA n) z⟩
    free := fun b o z n _ => (upd_ne (offA n)).trans ((upd_ne (offD z)).trans n)
    there := fun b o z _ => by
      by_cases ba : b = a
      · rw [ba]; exact ⟨_, hx⟩
      · exact ⟨_, kp b o ba z⟩
    tups := fun b xs z => (upd_ne (at_ne e z exo_tup)).trans ((upd_ne (ne_of_none z nD)).trans z)
    frzs := fun b o v z => (upd_ne (at_ne e z exo_frz)).trans ((upd_ne (ne_of_none z nD)).trans z)
    tbls := fun b ps z => ⟨#[], by rw [upd_ne (at_ne e z exo_tbl), upd_ne (ne_of_none z nD), z, Array.append_empty]⟩ }
  refine k dx _ nD ne (I.un (t' := t') U1 fun b o z => ?_)
  by_cases ba : b = a
  · rw [ba, upd_same] at z
    cases z
    rw [ba]
    exact exo_ok hx
  rw [upd_ne ba] at z
  by_cases bd : b = dx
  · rw [bd, upd_same] at z
    cases z
    rw [bd]
    exact exd_ok hn (relO_put (fs := []) ry fun _ => True.intro)
  rw [upd_ne bd] at z
  refine (I.hok b o z).stay (fun c v hc w => kp c v ?_ w) (fun c hc => (upd_ne (at_ne e hc exo_own)).trans ((upd_ne (ne_of_none hc nD)).trans hc)) fun c xs hc => (upd_ne (at_ne e hc exo_tup)).trans ((upd_ne (ne_of_none hc nD)).trans hc)
  rcases hc with hc | hc
  · rw [hc]; exact ba
  · exact at_ne e hc exo_own
end
/-- self.f = e, the first field of an exception -/
def tOf (K : PySem.W.Frag) (f : Str) (to te : TE) : TS := fun D σ H => te σ H fun y H1 => to σ H1 fun x H2 => ∃ a C : Addr, x = .ref a ∧ OexG K C ∧ PySem.W.findIn K (.ref C) f = some none ∧ H2 a = some (exo a C none) ∧
  ∀ dx, H2 dx = none → dx ≠ a → D.nx σ (upd (upd H2 dx (exd dx [(f, y)])) a (exo a C (some dx)))
section
variable {X : Cx} {o e : Expr} {es : List Expr} {to te : TE} {ta : TA} {f : Str} {p p' pos : Pos}
theorem ps_of (ho : PE X o to) (he : PE X e te) (hs : swapsWith e (some (.Attribute o f p')) pos.line X.env = pure false := by rfl) : PS X (.Assign [.Attribute o f p'] e pos) (tOf X.K f to te) := by
  refine ⟨fun pins s σ H D I h => ?_⟩
  refine plainObj_wpAny_Assign_Attribute (thn (he.run pins s σ H _ I h) fun v s1 ⟨y, H1, I1, r1, q1⟩ => thn (ho.run pins s1 σ H1 _ I1 q1) fun u s2 ⟨x, H2, I2, r2, a, C, ex, T, no, ea, q⟩ => ?_) hs
  subst ex
  obtain rfl : u = .ref a := r2
  exact ost_first T I2 ea no r1 fun dx s' n ne J => ⟨σ, _, J, q dx n ne⟩
/-- C(e, ..) for an own exception class C -/
theorem pmk_g {CX : CXT} {x : Str} {C fI : Addr} {k : Nat} {fd : FuncData} {ps : List Str} {sp : Sp} (T : OexG X.K C) (iC : PySem.W.findIn X.K (.ref C) "__init__" = some (some (.ref fI))) (tI : PySem.W.typeIn X.K (.ref fI) = some (.type "function"))
    (F1 : FnOk X.prog X.w X.K X.mg X.base CX k fI fd ps sp) (hr : Room (k + 1) X.A) (hb : Binds X.K fd ps []) (hx : Passes CX X (fun _ _ _ => False)) (hg : Gl X x) (hm : X.mg x = some (.ref C)) (ha : PA X (e :: es) ta)
    (hdb : (x == ("__debug__" : Str)) = false := by decide) (he : starEach (e :: es) X.env = (false, eval e X.env) :: starEach es X.env := by rfl) (hpl : (backTo pos (starEach es X.env)).any (·.1) = false := by rfl) :
    PMk X (.Call (.Name x p) (e :: es) [] pos) (tMkO C sp [] ta) := by
  intro pins s σ H Q I h
  obtain ⟨nm, q, N, bs, bm, sn, sub, ab, col, dd, k0, k1, k2, k3, k5, nw, tl, hC, hbm, B, ini, FB, hp, hob⟩ := T.cls
  refine wpAny_Call_Name_kw (ld_glob I hg hm ?_ hdb)
  refine PySem.W.callWith_K (h₀ := X.base) I.ok.mod.kin T.kC (thn (ha.run pos pins s σ H _ I h) fun us s1 ⟨vs, H1, I1, r1, hz, q1⟩ => ⟨I1.kIn, ?_⟩) he hpl
  show wpAny _ _ (call (.ref C) us) _ _ _
  obtain ⟨hh, gs, dr, tk, os⟩ := s1
  generalize hA : hh.objs.size + 1 = A1
  have le : hh.objs.size ≤ A1 := by omega
  have nA : H1 A1 = none := I1.hok.fresh le
  have hq := q1 A1 nA
  have kk : ∀ b o, hh.get? b = some o → ((hh.push (PySem.W.kdv_tup us)).push (PySem.HandSPX.excO C hh.objs.size)).get? b = some o := fun b o z => Heap.get?_push_of_some _ (Heap.get?_push_of_some _ z)
  have at1 : ((hh.push (PySem.W.kdv_tup us)).push (PySem.HandSPX.excO C hh.objs.size)).get? A1 = some (PySem.HandSPX.excO C hh.objs.size) := by subst hA; heap_get
  have I2 : Inv X pins σ (upd H1 A1 (exo A1 C none)) ⟨(hh.push (PySem.W.kdv_tup us)).push (PySem.HandSPX.excO C hh.objs.size), gs, dr, tk, os⟩ := I1.laid (t' := tk) kk le (exo_ok at1)
  have r2 : Vals (V.ref A1 :: (vs ++ [])) (Value.ref A1 :: us) := .cons rfl (by rw [List.append_nil]; exact r1)
  have hl : (Value.ref A1 :: us).length = ps.length := r2.length.symm.trans (F1.len _ _ _ _ hq)
  have hus : us.length ≤ sizeLine := by
    have := Paired.length r1
    rw [← this, sizeLine_eq]
    omega
  have hb2 := hb _ (Value.ref A1 :: us) I2.kIn (by rw [List.append_nil]; exact hl)
  rw [List.append_nil] at hb2
  refine wpAny_call (PySem.HandSPX.call_own FB (fun n => refsB_has n hbm) (I1.kIn _ _ hC) (PySem.W.looks_findIn I1.kIn iC) (fun z => PySem.W.bind_fn I1.kIn z tI) hus ?_)
  rw [hA]
  refine codeAny_mono (F1.run _ X.stack _ _ ⟨Value.ref A1 :: us, []⟩ (Value.ref A1 :: us) _ _ (fun _ _ _ => False) (hr.make C us []) (I2.env0.make C us []) hb2 r2 hq) fun r s' z => ?_
  cases r with
  | error er => exact hx pins σ _ _ er s' I2 z
  | ok fl =>
    cases fl with
    | ret v =>
      obtain ⟨v', H2, o2, b2, un2, ok2, rv, ev, d, fs, ea, ed, n1, q2⟩ := z
      subst ev
      obtain ⟨h2, g2, d2, t2, o3⟩ := s'
      exact ⟨rv, mk_end (raises_own T.exC T.tyC) I1 le kk un2 ok2 o2 b2 ea ed n1 q2⟩
    | _ => exact z.elim
end
/-- asked of the written part -/
def oexgB (K : PySem.W.Frag) (C : Addr) : Bool := (match K.lookup C with
  | some ⟨.type t, _, .cls cd, sl⟩ => decide (t = "type") && (match cd.mro, sl.toList with
    | .ref c :: bm, [_, _, _, _, some (.builtin n), _] => decide (c = C) && (!cd.hasDel && (cd.hasDict && ((decide (n = "ValueError.__new__") && refsB [.type "ValueError", .type "Exception", .type "BaseException", .type "object"] bm) ||
      ((decide (n = "LookupError.__new__") && refsB [.type "LookupError", .type "Exception", .type "BaseException", .type "object"] bm) || (decide (n = "RuntimeError.__new__") && refsB [.type "RuntimeError", .type "Exception", .type "BaseException", .type "object"] bm)))))
    | _, _ => false)
  | _ => false) && (decide (PySem.W.findIn K (.ref C) "__setattr__" = some (some (.builtin "object.__setattr__"))) && (decide (PySem.W.subIn K (.ref C) (.type "BaseException") = some true) && (decide (PySem.W.typeIn K (.ref C) = some (.type "type")) && PySem.W.keepIn K (.ref C))))
theorem oexgB_ok {K : PySem.W.Frag} {C : Addr} (h : oexgB K C = true) : OexG K C := by
  unfold oexgB at h
  simp only [Bool.and_eq_true, decide_eq_true_eq] at h
  obtain ⟨h0, h1, h2, h3, h4⟩ := h
  refine ⟨?_, h1, h2, h3, h4⟩
  split at h0
  · rename_i t dd cd sl ho
    simp only [Bool.and_eq_true, decide_eq_true_eq] at h0
    obtain ⟨rfl, h0⟩ := h0
    split at h0
    · rename_i c bm k0 k1 k2 k3 n k5 hm hs
      simp only [Bool.and_eq_true, Bool.or_eq_true, decide_eq_true_eq, Bool.not_eq_true'] at h0
      obtain ⟨rfl, del, hd, hr⟩ := h0
      have key : ∃ tl, refsB tl bm = true ∧ BaseT n tl := by
        rcases hr with ⟨rfl, q⟩ | ⟨rfl, q⟩ | ⟨rfl, q⟩
        · exact ⟨_, q, baseT_val⟩
        · exact ⟨_, q, baseT_look⟩
        · exact ⟨_, q, baseT_run⟩
      obtain ⟨tl, q, bt⟩ := key
      obtain ⟨nm, bs, mro, ns, qn, hd', sn, sub, ab, col, del'⟩ := cd
      dsimp only at hm del hd
      subst hm del hd
      have hsl : sl = #[k0, k1, k2, k3, some (.builtin n), k5] := by
        obtain ⟨l⟩ := sl
        simp only at hs
        rw [hs]
      subst hsl
      exact ⟨nm, qn, ns, bs, bm, sn, sub, ab, col, dd, k0, k1, k2, k3, k5, n, tl, ho, q, bt⟩
    · cases h0
  · cases h0
end NL
namespace NL
open PySem L2
/-! ### own exceptions of one field -/
/-- what __init__(self, f): self.f = f does to the exception that is being made -/
def sp_xi (C : Addr) (f : Str) : Sp := fun vs H Q _ => ∃ (a : Addr) (v : V), vs = [.ref a, v] ∧ H a = some (exo a C none) ∧
  ∀ dx, H dx = none → dx ≠ a → Q .non (upd (upd H dx (exd dx [(f, v)])) a (exo a C (some dx)))
/-- what is known of an own exception class x with the field f -/
structure XC (P : Program) (w : World) (K : PySem.W.Frag) (mg : Str → Option Value) (base : Heap) (k : Nat) (x f : Str) (C : Addr) : Prop where
  g : mg x = some (.ref C)
  o : OexG K C
  no : PySem.W.findIn K (.ref C) f = some none
  fn : ∃ (fI : Addr) (fd : FuncData) (ps : List Str), PySem.W.findIn K (.ref C) "__init__" = some (some (.ref fI)) ∧ PySem.W.typeIn K (.ref fI) = some (.type "function") ∧ Binds K fd ps [] ∧ FnOk P w K mg base (L2.CX P w) k fI fd ps (sp_xi C f)
theorem del_upd {H : Hp} {a d : Addr} {o1 o2 o3 o4 : HO} (ha : H a = none) (hd : d ≠ a) : upd (del (upd (upd (upd H a o1) d o2) a o3) a) d o4 = upd H d o4 := by
  funext b
  by_cases e : b = d
  · subst e; rw [upd_same, upd_same]
  · rw [upd_ne e, upd_ne e]
    by_cases e2 : b = a
    · subst e2; rw [del_same, ha]
    · rw [del_ne e2, upd_ne e2, upd_ne e, upd_ne e2]
section
variable {X : Cx} {k : Nat} {x f : Str} {C : Addr} {e : Expr} {es : List Expr} {ta : TA} {p pos pos2 : Pos}
def tMkX (C : Addr) (f : Str) (ta : TA) : L2.St → Hp → XK → Prop := fun σ H Q => ta σ H fun vs H1 => ∃ v, vs = [v] ∧ ∀ d, H1 d = none → Q (.ref C) (some d) (upd H1 d (.xd [(f, v)]))
theorem pmk_x (T : XC X.prog X.w X.K X.mg X.base k x f C) (hr : Room (k + 1) X.A) (ha : PA X (e :: es) ta) (hg : Gl X x := by rfl) (hdb : (x == ("__debug__" : Str)) = false := by decide)
    (he : starEach (e :: es) X.env = (false, eval e X.env) :: starEach es X.env := by rfl) (hpl : (backTo pos (starEach es X.env)).any (·.1) = false := by rfl) :
    PMk X (.Call (.Name x p) (e :: es) [] pos) (tMkX C f ta) := by
  obtain ⟨fI, fd, ps, iC, tI, hb, F1⟩ := T.fn
  have ha' : PA X (e :: es) (fun σ H Q => ta σ H fun vs H1 => Q vs H1) := ha
  intro pins s σ H Q I h
  have base := pmk_g (p := p) T.o iC tI F1 hr hb passL hg T.g (ta := fun σ H Q => ∃ (R : List V → Hp → Prop), ta σ H R ∧ ∀ vs H', R vs H' → Q vs H')
    (⟨fun pos pins s σ H Q I q => by
      obtain ⟨R, h1, h2⟩ := q
      exact thn (ha.run pos pins s σ H R I h1) fun us s1 ⟨vs, H1, I1, r, q1⟩ => ⟨vs, H1, I1, r, h2 vs H1 q1⟩⟩) hdb he hpl
  refine base pins s σ H Q I ⟨_, h, fun vs H1 hv => ?_⟩
  obtain ⟨v, rfl, hv⟩ := hv
  refine ⟨by show 1 ≤ 1000; decide, fun a ha1 => ⟨a, v, rfl, upd_same, fun dx hdx hne => ⟨rfl, dx, [(f, v)], upd_same, ?_, ?_, ?_⟩⟩⟩
  · rw [upd_ne hne, upd_same]
  · have := hdx
    rw [upd_ne hne] at this
    exact this
  · rw [del_upd ha1 hne]
    rw [upd_ne hne] at hdx
    exact hv dx hdx
/-- raise x(e) -/
def tRaiseX (C : Addr) (f : Str) (W : WX) (ta : TA) : TS := fun _ σ H => ta σ H fun vs H1 => ∃ v, vs = [v] ∧ ∀ d, H1 d = none → W (.ref C) (some d) σ (upd H1 d (.xd [(f, v)]))
theorem q_raise {W : WX} (T : XC X.prog X.w X.K X.mg X.base k x f C) (tk : Takes X W) (hr : Room (k + 1) X.A) (ha : PA X (e :: es) ta) (hc : X.calm = true := by rfl) (hg : Gl X x := by rfl) (hdb : (x == ("__debug__" : Str)) = false := by decide)
    (he : starEach (e :: es) X.env = (false, eval e X.env) :: starEach es X.env := by rfl) (hpl : (backTo pos (starEach es X.env)).any (·.1) = false := by rfl) :
    PS X (.Raise (some (.Call (.Name x p) (e :: es) [] pos)) none pos2) (tRaiseX C f W ta) := ps_raise hc tk (pmk_x T hr ha hg hdb he hpl)
theorem g_raise {C : Addr} {f : Str} {W : WX} {ta : TA} {D : Ends} {σ : L2.St} {H : Hp} (h : ta σ H fun vs H1 => ∃ v, vs = [v] ∧ ∀ d, H1 d = none → W (.ref C) (some d) σ (upd H1 d (.xd [(f, v)]))) : tRaiseX C f W ta D σ H := h
theorem g_raised {v : V} {Z : V → Prop} (h : Z v) : ∃ u, [v] = [u] ∧ Z u := ⟨v, rfl, h⟩
end
/-! ### in an except suite: isinstance of the exception that is held, its field -/
def tXfD (K : PySem.W.Frag) (a : Addr) (cls : Value) (d : Option Addr) (f : Str) (te : TE) : TE := fun σ H Q => te σ H fun x H1 => x = .ref a ∧ ∃ (C dd : Addr) (fs : List (Str × V)) (v : V), cls = .ref C ∧ XfC K C ∧ PySem.W.findIn K (.ref C) f = some none ∧ d = some dd ∧ H1 dd = some (.xd fs) ∧ fs.lookup f = some v ∧ Q v H1
theorem pe_xfD0 {X : Cx} {a : Addr} {oe : Obj} {cls : Value} {d : Option Addr} {pn : List (Addr × Obj)} {e : Expr} {te : TE} {pos : Pos} {n : Str}
    (hz : Zc cls d oe) (hf : ∃ vs, oe.data = .fields vs) (he : PE (X.suite a ((a, oe) :: pn)) e te) (hb : attributeBase e n X.env (eval e X.env) = eval e X.env := by rfl) :
    PE (X.suite a ((a, oe) :: pn)) (.Attribute e n pos) (tXfD X.K a cls d n te) := by
  refine ⟨fun pins s σ H Q I h => ?_⟩
  have base : ∀ C, XfC X.K C → PySem.W.findIn X.K (.ref C) n = some none → PE (X.suite a ((a, oe) :: pn)) (.Attribute e n pos) (tXf a cls d C n te) := fun C T hno => pe_xf T hno hz hf he hb
  refine attr_of hb (thn (he.run pins s σ H _ I h) fun u s1 hh => ?_)
  obtain ⟨x, H1, I1, rx, ex, C, dd, fs, v, ec, T, hno, ed, ea, l, q⟩ := hh
  subst ex
  obtain rfl : u = Value.ref a := rx
  subst ec
  subst ed
  obtain ⟨ha, _⟩ := I1.pin (a, oe) (List.mem_append_left _ List.mem_cons_self)
  obtain ⟨vs, hd⟩ := hf
  obtain ⟨mA, hns, hr⟩ := I1.hok dd _ ea
  obtain ⟨od, ho, hl⟩ := lookIn_ns hns
  obtain ⟨u, hu, ru⟩ := RelO.some_of (v := v) (o := mA n) (by rw [← l]; exact hr n)
  have J : PySem.W.InstAt s1.heap a oe C (some od) := ⟨ha, hz.1, by unfold PySem.W.notCls; rw [hd] <;> rfl, by rw [hz.2]; exact ho⟩
  exact HandSPX.exc_get I1.kIn J T.ga T.gg T.exC (PySem.W.findObj_own T.hdC hno rfl (by rw [hl, hu])) (handed_of ru) ⟨v, H1, I1.tok _, ru, q⟩
theorem pe_xfD {X : Cx} (K : PySem.W.Frag) {a : Addr} {oe : Obj} {cls : Value} {d : Option Addr} {pn : List (Addr × Obj)} {e : Expr} {te : TE} {pos : Pos} {n : Str}
    (hz : Zc cls d oe) (hf : ∃ vs, oe.data = .fields vs) (he : PE (X.suite a ((a, oe) :: pn)) e te) (hb : attributeBase e n X.env (eval e X.env) = eval e X.env := by rfl) (h : X.K = K := by rfl) :
    PE (X.suite a ((a, oe) :: pn)) (.Attribute e n pos) (tXfD K a cls d n te) := h ▸ pe_xfD0 hz hf he hb
/-! ### an own class made, its methods called; what is raised goes to the taker -/
structure MkC (P : Program) (w : World) (K : PySem.W.Frag) (mg : Str → Option Value) (base : Heap) (k : Nat) (x : Str) (C : Addr) (ps : List Str) (sp : Sp) : Prop where
  g : mg x = some (.ref C)
  fn : ∃ (f : Addr) (fd : FuncData), Mk K C f ∧ Binds K fd ps [] ∧ FnOk P w K mg base (L2.CX P w) k f fd ps sp
structure MtC (P : Program) (w : World) (K : PySem.W.Frag) (mg : Str → Option Value) (base : Heap) (k : Nat) (C : Addr) (m : Str) (ps : List Str) (sp : Sp) : Prop where
  c : Cls K C
  fn : ∃ (f : Addr) (fd : FuncData), Meth K C m f ∧ PySem.W.fnIn K f = true ∧ Binds K fd ps [] ∧ FnOk P w K mg base (L2.CX P w) k f fd ps sp
section
variable {X : Cx} {k : Nat} {x m : Str} {C : Addr} {e o : Expr} {es : List Expr} {t : TA} {ta : TE} {p pos apos : Pos} {ps : List Str} {sp : Sp} {W : WX}
def tMakeS (C : Addr) (sp : Sp) (E : L2.St → XK) (t : TA) : TE := fun σ H Q => t σ H fun vs H1 => ∀ x dx, H1 x = none → H1 dx = none → dx ≠ x →
  sp (.ref x :: vs) (upd (upd H1 dx (.own x)) x (.ins C dx [])) (fun v H2 => v = .non ∧ Q (.ref x) H2) (E σ)
theorem g_make {C : Addr} {sp : Sp} {E : L2.St → XK} {t : TA} {σ : L2.St} {H : Hp} {Q : VK} (h : t σ H fun vs H1 => ∀ x dx, H1 x = none → H1 dx = none → dx ≠ x →
    sp (.ref x :: vs) (upd (upd H1 dx (.own x)) x (.ins C dx [])) (fun v H2 => v = .non ∧ Q (.ref x) H2) (E σ)) : tMakeS C sp E t σ H Q := h
/-- o.m(..) -/
def tMethS (C : Addr) (m : Str) (sp : Sp) (E : L2.St → XK) (ta : TE) (t : TA) : TE := fun σ H Q => ta σ H fun x H1 => ∃ a dx fs, x = .ref a ∧ H1 a = some (.ins C dx fs) ∧ fs.lookup m = none ∧ t σ H1 fun vs H2 => sp (x :: vs) H2 Q (E σ)
theorem g_meth {C : Addr} {m : Str} {sp : Sp} {E : L2.St → XK} {ta : TE} {t : TA} {σ : L2.St} {H : Hp} {Q : VK} (h : ta σ H fun x H1 => ∃ a dx fs, x = .ref a ∧ H1 a = some (.ins C dx fs) ∧ fs.lookup m = none ∧ t σ H1 fun vs H2 => sp (x :: vs) H2 Q (E σ)) : tMethS C m sp E ta t σ H Q := h
end
end NL
namespace NL
open PySem L2
/-! ### facts of the written part, asked once at the head -/
def excB (K : PySem.W.Frag) (D : Addr) : Bool := decide (PySem.W.findIn K (.ref D) "__getattribute__" = some (some (.builtin "BaseException.__getattribute__"))) && (decide (PySem.W.findIn K (.ref D) "__getattr__" = some none) && (decide (PySem.W.subIn K (.ref D) (.type "BaseException") = some true) && (PySem.W.hasDictIn K D &&
  (decide (PySem.W.findIn K (.ref D) "__class__" = some (some (.builtin "object.__class__"))) && (decide (PySem.W.specialIn K (.builtin "object.__class__") "__get__" = some (some (.builtin "getset_descriptor.__get__"))) && (decide (PySem.W.takesIn K (.builtin "object.__class__") = some true) && decide (PySem.W.mroIn K D (.type "object") = some true)))))))
theorem excB_ok {K : PySem.W.Frag} {D : Addr} (h : excB K D = true) : ExcC K D := by
  unfold excB at h
  simp only [Bool.and_eq_true, decide_eq_true_eq] at h
  obtain ⟨h1, h2, h3, h4, h5, h6, h7, h8⟩ := h
  exact ⟨h1, h2, h3, h4, h5, h6, h7, h8⟩
/-- a class by its name: a module's one, or a built-in type -/
inductive Cn where
  | own (x : Str) | ty (n : String)
def Cn.v (K : PySem.W.Frag) : Cn → Value
  | .own x => .ref (He.ga K x)
  | .ty n => .type n
inductive Fx where
  | fa (f : He.Fa)
  /-- an own exception class with a dict -/
  | oex (x : Str)
  | fnI (x : Str)
  | excC (x : Str)
  | xf (x : Str)
  /-- isinstance of an x in y -/
  | kit (x : Str) (y : Cn) (b : Bool)
  | tup (x : Str) (vs : List He.Dv)
  | fnF (x m : Str)
def fnB (K : PySem.W.Frag) (x : Str) : Bool := He.eqO (PySem.W.findIn K (.ref (He.ga K x)) "__init__") (some (some (.ref (He.ma K (He.ga K x) "__init__")))) && decide (PySem.W.typeIn K (.ref (He.ma K (He.ga K x) "__init__")) = some (.type "function"))
def Fx.ok (K : PySem.W.Frag) : Fx → Bool
  | .fa f => f.ok K
  | .oex x => oexgB K (He.ga K x)
  | .fnI x => fnB K x
  | .excC x => excB K (He.ga K x)
  | .xf x => xfB K (He.ga K x)
  | .kit x y b => decide (PySem.W.kitOne K (.ref (He.ga K x)) (y.v K) = some b)
  | .tup x vs => He.tupB K x vs
  | .fnF x m => PySem.W.fnIn K (He.ma K (He.ga K x) m)
def fxB (l : List Fx) (K : PySem.W.Frag) : Bool := l.all fun f => f.ok K
theorem fxB_at {l : List Fx} {K : PySem.W.Frag} (h : fxB l K = true) (i : Nat) {f : Fx} (e : l[i]? = some f := by rfl) : f.ok K = true :=
  List.all_eq_true.mp h f (List.mem_of_getElem? e)
section
variable {K : PySem.W.Frag} {h : Heap} {mg : Str → Option Value} {l : List Fx}
theorem fx_glo (X : K.In h) (G : h.Ns mainGlobals mg) (c : fxB l K = true) (i : Nat) {x : Str} (e : l[i]? = some (.fa (.glo x)) := by rfl) : mg x = some (.ref (He.ga K x)) := He.glo_ok X G (fxB_at c i e)
theorem fx_free (X : K.In h) (G : h.Ns mainGlobals mg) (c : fxB l K = true) (i : Nat) {x : Str} (e : l[i]? = some (.fa (.free x)) := by rfl) : mg x = none := He.free_ok X G (fxB_at c i e)
theorem fx_noat (c : fxB l K = true) (i : Nat) {x f : Str} (e : l[i]? = some (.fa (.noat x f)) := by rfl) : NoAttr K (He.ga K x) f := He.noat_ok (fxB_at c i e)
theorem fx_exm (c : fxB l K = true) (i : Nat) {x y : Str} {b : Bool} (e : l[i]? = some (.fa (.exm x y b)) := by rfl) : PySem.W.exmOne K (.ref (He.ga K x)) (.ref (He.ga K y)) = some b := He.exm_ok (fxB_at c i e)
theorem fx_oex (c : fxB l K = true) (i : Nat) {x : Str} (e : l[i]? = some (.oex x) := by rfl) : OexG K (He.ga K x) := oexgB_ok (fxB_at c i e)
theorem fx_exc (c : fxB l K = true) (i : Nat) {x : Str} (e : l[i]? = some (.excC x) := by rfl) : ExcC K (He.ga K x) := excB_ok (fxB_at c i e)
theorem fx_xf (c : fxB l K = true) (i : Nat) {x : Str} (e : l[i]? = some (.xf x) := by rfl) : XfC K (He.ga K x) := xfB_ok (fxB_at c i e)
theorem fx_fnI (c : fxB l K = true) (i : Nat) {x : Str} (e : l[i]? = some (.fnI x) := by rfl) : PySem.W.findIn K (.ref (He.ga K x)) "__init__" = some (some (.ref (He.ma K (He.ga K x) "__init__"))) ∧ PySem.W.typeIn K (.ref (He.ma K (He.ga K x) "__init__")) = some (.type "function") := by
  have q : fnB K x = true := fxB_at c i e
  unfold fnB at q
  simp only [Bool.and_eq_true, decide_eq_true_eq] at q
  exact ⟨He.eqO_ok q.1, q.2⟩
end
theorem hCX {P : Program} (w : World) (H : Hp) (s : Shared) (e : Value) (s' : Shared) (h : L2.CX P w [] H s (fun _ _ _ => False) e s') : False := by
  obtain ⟨_, _, _, _, _, _, _, _, _, _, _, _, z⟩ := h
  exact z
end NL
namespace NL
open PySem L2
/-! ### match over texts: written texts, | of them, _ ; a guard -/
section
variable {X : Cx} {K : PySem.W.Frag}
def tMnil : Str → TS := fun _ D σ H => D.nx σ H
def tMcs (ks : List Str) (tb : TS) (tr : Str → TS) : Str → TS := fun a D σ H => if decide (a ∈ ks) = true then tb D σ H else tr a D σ H
def tMcg (ks : List Str) (tg : TT) (tb : TS) (tr : Str → TS) : Str → TS := fun a D σ H => if decide (a ∈ ks) = true then tg σ H (fun b H1 => if b = true then tb D σ H1 else tr a D σ H1) else tr a D σ H
def tMany (tb : TS) : Str → TS := fun _ D σ H => tb D σ H
def tMatch (te : TE) (tc : Str → TS) : TS := fun D σ H => te σ H fun x H1 => ∃ a, x = .str a ∧ tc a D σ H1
variable {σ : L2.St} {H : Hp} {D : Ends} {a : Str} {ks : List Str}
theorem g_match {te : TE} {tc : Str → TS} (h : te σ H fun x H1 => ∃ a, x = .str a ∧ tc a D σ H1) : tMatch te tc D σ H := h
theorem g_matched {Z : Str → Prop} (h : Z a) : ∃ b, V.str a = .str b ∧ Z b := ⟨a, rfl, h⟩
theorem g_mcs {tb : TS} {tr : Str → TS} (h : if decide (a ∈ ks) = true then tb D σ H else tr a D σ H) : tMcs ks tb tr a D σ H := h
theorem g_mcg {tg : TT} {tb : TS} {tr : Str → TS} (h : if decide (a ∈ ks) = true then tg σ H (fun b H1 => if b = true then tb D σ H1 else tr a D σ H1) else tr a D σ H) : tMcg ks tg tb tr a D σ H := h
theorem g_many {tb : TS} (h : tb D σ H) : tMany tb a D σ H := h
theorem g_mnil {nx : L2.St → Hp → Prop} {rt : VK} {bk ct : L2.St → Hp → Prop} (h : nx σ H) : tMnil a ⟨nx, rt, bk, ct⟩ σ H := h
/-! ### fields -/
theorem g_afld {ta tv : TE} {rd : V → V → Hp → VK → Prop} {f : Str} {nx : L2.St → Hp → Prop} {rt : VK} {bk ct : L2.St → Hp → Prop} (h : ta σ H fun x H1 => ∃ a C dx fs v, x = .ref a ∧ H1 a = some (.ins C dx fs) ∧ Cls K C ∧ NoAttr K C f ∧ fs.lookup f = some v ∧
    tv σ H1 fun y H2 => rd v y H2 fun z H3 => ∃ dx' fs', H3 a = some (.ins C dx' fs') ∧ fs'.length < 1000 ∧ nx σ (upd H3 a (.ins C dx' (putF f z fs')))) : sFldAug K ta tv rd f ⟨nx, rt, bk, ct⟩ σ H := h
theorem g_rAdd {i j : Int} {Q : VK} (h : Q (.int (i + j)) H) : rAdd (.int i) (.int j) H Q := ⟨i, j, rfl, rfl, h⟩
theorem g_rSub {i j : Int} {Q : VK} (h : Q (.int (i - j)) H) : rSub (.int i) (.int j) H Q := ⟨i, j, rfl, rfl, h⟩
theorem g_af {p C dx : Addr} {fs : List (Str × V)} {Z : Addr → List (Str × V) → Prop} (z1 : H p = some (.ins C dx fs)) (z4 : fs.length < 1000) (h : Z dx fs) : ∃ dx' fs', H p = some (.ins C dx' fs') ∧ fs'.length < 1000 ∧ Z dx' fs' := ⟨dx, fs, z1, z4, h⟩
theorem g_gfa {p C dx : Addr} {fs : List (Str × V)} {f : Str} {v : V} {Z : Addr → Addr → V → Prop} (z1 : H p = some (.ins C dx fs)) (z2 : Cls K C) (z3 : NoAttr K C f) (z4 : fs.lookup f = some v) (h : Z p C v) :
    ∃ a C dx fs v, V.ref p = .ref a ∧ H a = some (.ins C dx fs) ∧ Cls K C ∧ NoAttr K C f ∧ fs.lookup f = some v ∧ Z a C v := ⟨p, C, dx, fs, v, rfl, z1, z2, z3, z4, h⟩
theorem g_mt {p C dx : Addr} {fs : List (Str × V)} {m : Str} {Z : Prop} (z1 : H p = some (.ins C dx fs)) (z2 : fs.lookup m = none) (h : Z) : ∃ a dx fs, V.ref p = .ref a ∧ H a = some (.ins C dx fs) ∧ fs.lookup m = none ∧ Z := ⟨p, dx, fs, rfl, z1, z2, h⟩
theorem g_ite_refl {α : Type} [DecidableEq α] {x : α} {A B : Prop} (h : B) : if (!decide (x = x)) = true then A else B := by
  rw [show (!decide (x = x)) = false by simp]
  exact iteF h
end
end NL
namespace NL
open PySem L2
/-! ### an own object that is called -/
section
variable {X : Cx} {k : Nat} {x : Str} {C : Addr} {e : Expr} {es : List Expr} {t : TA} {ta : TE} {p pos : Pos} {ps : List Str} {sp : Sp} {W : WX}
def tCallO (C : Addr) (sp : Sp) (E : L2.St → XK) (ta : TE) (t : TA) : TE := fun σ H Q => ta σ H fun x H1 => ∃ a dx fs, x = .ref a ∧ H1 a = some (.ins C dx fs) ∧ t σ H1 fun vs H2 => (∃ dx' fs', H2 a = some (.ins C dx' fs')) ∧ sp (x :: vs) H2 Q (E σ)
theorem g_callO {σ : L2.St} {H : Hp} {Q : VK} {E : L2.St → XK} (h : ta σ H fun x H1 => ∃ a dx fs, x = .ref a ∧ H1 a = some (.ins C dx fs) ∧ t σ H1 fun vs H2 => (∃ dx' fs', H2 a = some (.ins C dx' fs')) ∧ sp (x :: vs) H2 Q (E σ)) : tCallO C sp E ta t σ H Q := h
theorem g_co {H : Hp} {p dx : Addr} {fs : List (Str × V)} {Z : Addr → Prop} (z1 : H p = some (.ins C dx fs)) (h : Z p) : ∃ a dx fs, V.ref p = .ref a ∧ H a = some (.ins C dx fs) ∧ Z a := ⟨p, dx, fs, rfl, z1, h⟩
theorem g_ci {H : Hp} {p dx : Addr} {fs : List (Str × V)} {Z : Prop} (z1 : H p = some (.ins C dx fs)) (h : Z) : (∃ dx' fs', H p = some (.ins C dx' fs')) ∧ Z := ⟨⟨dx, fs, z1⟩, h⟩
end
/-! ### dicts -/
section
variable {X : Cx} {K : PySem.W.Frag} {σ : L2.St} {H : Hp} {Q : VK} {td ty tv : TE} {p : Addr} {kvs : List (Key × V)} {z : Str} {i : Int} {v : V}
theorem g_dget (h : td σ H fun x H1 => ty σ H1 fun y H2 => ∃ a v, x = .ref a ∧ DGet H2 a y (some v) ∧ Q v H2) : tDGet td ty σ H Q := h
theorem g_dgs {Z : V → Prop} (z1 : H p = some (.dK kvs)) (z2 : valV kvs (.inr z) = some v) (h : Z v) : ∃ a v, V.ref p = .ref a ∧ DGet H a (.str z) (some v) ∧ Z v :=
  ⟨p, v, rfl, .inl ⟨kvs, .inr z, .inl z1, rfl, z2.symm⟩, h⟩
theorem g_dput {nx : L2.St → Hp → Prop} {rt : VK} {bk ct : L2.St → Hp → Prop} (h : tv σ H fun v H1 => td σ H1 fun x H2 => ty σ H2 fun y H3 => ∃ a H4, x = .ref a ∧ DPut H3 a y v H4 ∧ nx σ H4) : sDPut td ty tv ⟨nx, rt, bk, ct⟩ σ H := h
theorem g_dps {Z : Hp → Prop} (z1 : H p = some (.dK kvs)) (z2 : kvs.length < sizeLine) (h : Z (upd H p (.dK (putK kvs (.inr z) v)))) : ∃ a H4, V.ref p = .ref a ∧ DPut H a (.str z) v H4 ∧ Z H4 :=
  ⟨p, _, rfl, .inl ⟨kvs, .inr z, z1, rfl, z2, rfl⟩, h⟩
end
end NL
namespace NL
open PySem L2
/-! ### edges: from a heap to the next; what lies in U may change, nothing goes -/
def Ed (U : List Addr) (H H' : Hp) : Prop := (∀ a o, a ∉ U → H a = some o → H' a = some o) ∧ ∀ a, H a ≠ none → H' a ≠ none
section
variable {U U' W : List Addr} {H H' H0 H1 H2 : Hp} {a b p : Addr} {o : HO}
theorem no0 {P : Addr → Prop} : ∀ a ∈ ([] : List Addr), P a := fun _ z => absurd z List.not_mem_nil
theorem Ed.refl : Ed U H H := ⟨fun _ _ _ e => e, fun _ h => h⟩
theorem Ed.free (e : Ed U H H') (h : H' a = none) : H a = none := by
  by_cases z : H a = none
  · exact z
  · exact absurd h (e.2 a z)
theorem Ed.tr (h1 : Ed U H0 H1) (h2 : Ed U' H1 H2) (hv : ∀ a ∈ U', a ∈ U ∨ H0 a = none) : Ed U H0 H2 :=
  ⟨fun a o n e => h2.1 a o (fun z => (hv a z).elim n (fun q => by rw [q] at e; cases e)) (h1.1 a o n e), fun a h => h2.2 a (h1.2 a h)⟩
theorem Ed.new (hp : H p = none) : Ed [] H (upd H p o) := ⟨fun a u _ e => by rw [upd_ne (ne_of_none e hp)]; exact e, fun a h => by
  rw [upd_ne (fun z : a = p => h (by rw [z]; exact hp))]; exact h⟩
theorem Ed.put : Ed [p] H (upd H p o) := ⟨fun a u n e => by rw [upd_ne (fun z => n (by rw [z]; exact List.mem_singleton.mpr rfl))]; exact e, fun a h => by
  by_cases z : a = p
  · rw [z, upd_same]; exact fun z => nomatch z
  · rw [upd_ne z]; exact h⟩
theorem Ed.same (s : Same H H') : Ed [] H H' := ⟨fun a o _ e => s a o e, fun a h => by
  cases e : H a with
  | none => exact absurd e h
  | some o => rw [s a o e]; exact fun z => nomatch z⟩
theorem Ed.sx (s : Sx U H H') (h : ∀ a ∈ U, H' a ≠ none) : Ed U H H' := ⟨fun a o n e => s a o n e, fun a q => by
  by_cases z : a ∈ U
  · exact h a z
  · cases e : H a with
    | none => exact absurd e q
    | some o => rw [s a o z e]; exact fun z => nomatch z⟩
theorem Ed.same' (e : Ed [] H H') : Same H H' := fun a o q => e.1 a o (List.not_mem_nil) q
theorem Ed.get (e : Ed U H H') (n : a ∉ U) (h : H a = some o) : H' a = some o := e.1 a o n h
/-- all of W lie in H -/
def Wl (W : List Addr) (H : Hp) : Prop := ∀ a ∈ W, H a ≠ none
theorem Wl.nil : Wl [] H := no0
theorem Wl.cons (h : H a = some o) (r : Wl W H) : Wl (a :: W) H := fun c hc => by
  rcases List.mem_cons.mp hc with rfl | hc
  · rw [h]; exact fun z => nomatch z
  · exact r c hc
theorem Wl.ed (w : Wl W H) (e : Ed U H H') : Wl W H' := fun a h => e.2 a (w a h)
theorem Wl.not (w : Wl W H) (h : H a = none) : a ∉ W := fun z => w a z h
end
/-! ### data of one's own: every part lies outside of W -/
mutual
/-- no dict in it -/
def noD : PyData → Bool
  | .list ds => noDs ds
  | .tuple ds => noDs ds
  | .dict _ => false
  | .none => true
  | .bool _ => true
  | .int _ => true
  | .str _ => true
def noDs : List PyData → Bool
  | [] => true
  | d :: r => noD d && noDs r
end
/-- data that can be compared -/
def Sh (d : PyData) : Prop := SeqAt.shaped d = true ∧ noD d = true
theorem Sh.int (i : Int) : Sh (.int i) := ⟨by simp [SeqAt.shaped, PyData.canLay0, PyData.depth], by simp [noD]⟩
theorem Sh.bool (i : Bool) : Sh (.bool i) := ⟨by simp [SeqAt.shaped, PyData.canLay0, PyData.depth], by simp [noD]⟩
theorem Sh.none : Sh .none := ⟨by simp [SeqAt.shaped, PyData.canLay0, PyData.depth], by simp [noD]⟩
theorem Sh.str {s : Str} (h : PyData.strOk s = true) : Sh (.str s) := ⟨by simp [SeqAt.shaped, PyData.canLay0, PyData.depth, h], by simp [noD]⟩
/-- data that can lie in a list or tuple of what is compared: n deep at most -/
def Sd (n : Nat) (d : PyData) : Prop := d.canLay0 = true ∧ d.depth ≤ n ∧ noD d = true
theorem Sd.mono {n m : Nat} {d : PyData} (h : Sd n d) (l : n ≤ m) : Sd m d := ⟨h.1, Nat.le_trans h.2.1 l, h.2.2⟩
theorem Sd.all {n : Nat} : ∀ {ds : List PyData}, (∀ d ∈ ds, Sd n d) → PyData.canLayAll0 ds = true ∧ PyData.depthAll ds ≤ n ∧ noDs ds = true
  | [], _ => ⟨rfl, by simp [PyData.depthAll], by simp [noDs]⟩
  | d :: r, h => by
    obtain ⟨h1, h2, h3⟩ := h d (List.mem_cons_self ..)
    obtain ⟨k1, k2, k3⟩ := Sd.all fun e he => h e (List.mem_cons_of_mem _ he)
    exact ⟨by simp [PyData.canLayAll0, h1, k1], by simp only [PyData.depthAll]; omega, by simp [noDs, h3, k3]⟩
theorem Sd.list {n : Nat} {ds : List PyData} (h : ∀ d ∈ ds, Sd n d) : Sd (n + 1) (.list ds) := by
  obtain ⟨k1, k2, k3⟩ := Sd.all h
  exact ⟨by simp only [PyData.canLay0, k1], by simp only [PyData.depth]; omega, by simp only [noD, k3]⟩
theorem Sd.tuple {n : Nat} {ds : List PyData} (h : ∀ d ∈ ds, Sd n d) : Sd (n + 1) (.tuple ds) := by
  obtain ⟨k1, k2, k3⟩ := Sd.all h
  exact ⟨by simp only [PyData.canLay0, k1], by simp only [PyData.depth]; omega, by simp only [noD, k3]⟩
theorem Sd.sh {n : Nat} {d : PyData} (h : Sd n d) (l : n ≤ 60) : Sh d := ⟨by
  simp only [SeqAt.shaped, h.1, Bool.true_and]
  have := h.2.1
  exact decide_eq_true (by omega), h.2.2⟩
theorem Sd.int (i : Int) : Sd 0 (.int i) := ⟨by simp [PyData.canLay0], by simp [PyData.depth], by simp [noD]⟩
theorem Sd.bool (i : Bool) : Sd 0 (.bool i) := ⟨by simp [PyData.canLay0], by simp [PyData.depth], by simp [noD]⟩
theorem Sd.none : Sd 0 .none := ⟨by simp [PyData.canLay0], by simp [PyData.depth], by simp [noD]⟩
theorem Sd.str {s : Str} (h : PyData.strOk s = true) : Sd 0 (.str s) := ⟨by simp [PyData.canLay0, h], by simp [PyData.depth], by simp [noD]⟩
theorem Sd.map {α : Type} {n : Nat} {f : α → PyData} {xs : List α} (h : ∀ x ∈ xs, Sd n (f x)) : ∀ d ∈ xs.map f, Sd n d := fun d hd => by
  obtain ⟨x, hx, rfl⟩ := List.mem_map.mp hd
  exact h x hx
theorem Sd.nil {n : Nat} : ∀ d ∈ ([] : List PyData), Sd n d := fun d hd => absurd hd List.not_mem_nil
theorem Sd.cons {n : Nat} {d : PyData} {r : List PyData} (h : Sd n d) (k : ∀ d ∈ r, Sd n d) : ∀ e ∈ d :: r, Sd n e := fun e he => by
  rcases List.mem_cons.mp he with rfl | he
  · exact h
  · exact k e he
/-- an object of which the data tell the place alone -/
abbrev ob (a : Addr) : PyData := .dict [(.int (a : Nat), .none)]
mutual
inductive Df (W : List Addr) (H : Hp) : L2.V → PyData → Prop
  | non : Df W H .non .none
  | bl (b : Bool) : Df W H (.bl b) (.bool b)
  | int (i : Int) : Df W H (.int i) (.int i)
  | str (s : Str) : Df W H (.str s) (.str s)
  | obj {a : Addr} : a ∉ W → H a ≠ none → Df W H (.ref a) (ob a)
  | lst {a : Addr} {xs : List V} {ds : List PyData} : a ∉ W → H a = some (.lst xs) → DfAll W H xs ds → Df W H (.ref a) (.list ds)
  | tup {a : Addr} {xs : List V} {ds : List PyData} : a ∉ W → H a = some (.tup xs) → DfAll W H xs ds → Df W H (.ref a) (.tuple ds)
inductive DfAll (W : List Addr) (H : Hp) : List L2.V → List PyData → Prop
  | nil : DfAll W H [] []
  | cons {v : V} {d : PyData} {vs : List V} {ds : List PyData} : Df W H v d → DfAll W H vs ds → DfAll W H (v :: vs) (d :: ds)
end
section
variable {U W W' : List Addr} {H H' : Hp} {v : V} {d : PyData} {vs : List L2.V} {ds : List PyData} {K : PySem.W.Frag} {p a : Addr}
mutual
theorem Df.ed (e : Ed U H H') (hv : ∀ a ∈ U, a ∈ W) : ∀ {v : L2.V} {d : PyData}, Df W H v d → Df W H' v d
  | _, _, .non => .non
  | _, _, .bl b => .bl b
  | _, _, .int b => .int b
  | _, _, .str b => .str b
  | _, _, .obj n h => .obj n (e.2 _ h)
  | _, _, .lst n h r => .lst n (e.1 _ _ (fun z => n (hv _ z)) h) (DfAll.ed e hv r)
  | _, _, .tup n h r => .tup n (e.1 _ _ (fun z => n (hv _ z)) h) (DfAll.ed e hv r)
theorem DfAll.ed (e : Ed U H H') (hv : ∀ a ∈ U, a ∈ W) : ∀ {vs : List L2.V} {ds : List PyData}, DfAll W H vs ds → DfAll W H' vs ds
  | _, _, .nil => .nil
  | _, _, .cons h r => .cons (Df.ed e hv h) (DfAll.ed e hv r)
end
mutual
theorem Df.weak (hv : ∀ a ∈ W', a ∈ W) : ∀ {v : L2.V} {d : PyData}, Df W H v d → Df W' H v d
  | _, _, .non => .non
  | _, _, .bl b => .bl b
  | _, _, .int b => .int b
  | _, _, .str b => .str b
  | _, _, .obj n h => .obj (fun z => n (hv _ z)) h
  | _, _, .lst n h r => .lst (fun z => n (hv _ z)) h (DfAll.weak hv r)
  | _, _, .tup n h r => .tup (fun z => n (hv _ z)) h (DfAll.weak hv r)
theorem DfAll.weak (hv : ∀ a ∈ W', a ∈ W) : ∀ {vs : List L2.V} {ds : List PyData}, DfAll W H vs ds → DfAll W' H vs ds
  | _, _, .nil => .nil
  | _, _, .cons h r => .cons (Df.weak hv h) (DfAll.weak hv r)
end
mutual
theorem Df.more (hp : H p = none) : ∀ {v : L2.V} {d : PyData}, Df W H v d → Df (p :: W) H v d
  | _, _, .non => .non
  | _, _, .bl b => .bl b
  | _, _, .int b => .int b
  | _, _, .str b => .str b
  | _, _, .obj n h => .obj (fun z => (List.mem_cons.mp z).elim (fun q => h (by rw [q]; exact hp)) n) h
  | _, _, .lst n h r => .lst (fun z => (List.mem_cons.mp z).elim (ne_of_none h hp) n) h (DfAll.more hp r)
  | _, _, .tup n h r => .tup (fun z => (List.mem_cons.mp z).elim (ne_of_none h hp) n) h (DfAll.more hp r)
theorem DfAll.more (hp : H p = none) : ∀ {vs : List L2.V} {ds : List PyData}, DfAll W H vs ds → DfAll (p :: W) H vs ds
  | _, _, .nil => .nil
  | _, _, .cons h r => .cons (Df.more hp h) (DfAll.more hp r)
end
mutual
theorem Df.dp : ∀ {v : L2.V} {d : PyData}, Df W H v d → noD d = true → Dp K H v d
  | _, _, .non, _ => .non
  | _, _, .bl b, _ => .bl b
  | _, _, .int b, _ => .int b
  | _, _, .str b, _ => .str b
  | _, _, .obj _ _, h => by simp [noD] at h
  | _, _, .lst _ h r, q => .lst (SqL.of h) (DfAll.dp r (by simpa [noD] using q))
  | _, _, .tup _ h r, q => .tup (SqT.of h) (DfAll.dp r (by simpa [noD] using q))
theorem DfAll.dp : ∀ {vs : List L2.V} {ds : List PyData}, DfAll W H vs ds → noDs ds = true → DpAll K H vs ds
  | _, _, .nil, _ => .nil
  | _, _, .cons h r, q => .cons (Df.dp h (by simp [noDs] at q; exact q.1)) (DfAll.dp r (by simp [noDs] at q; exact q.2))
end
theorem DfAll.length : ∀ {vs : List L2.V} {ds : List PyData}, DfAll W H vs ds → vs.length = ds.length
  | _, _, .nil => rfl
  | _, _, .cons _ r => by rw [List.length_cons, List.length_cons, DfAll.length r]
theorem DfAll.at : ∀ {vs : List L2.V} {ds : List PyData} {i : Nat} {d : PyData}, DfAll W H vs ds → ds[i]? = some d → ∃ v, vs[i]? = some v ∧ Df W H v d
  | _, _, _, _, .nil, e => by simp at e
  | _, _, 0, _, .cons h _, e => by simp at e; subst e; exact ⟨_, rfl, h⟩
  | _, _, i + 1, _, .cons _ r, e => by
    obtain ⟨v, h1, h2⟩ := DfAll.at r (i := i) (by simpa using e)
    exact ⟨v, by simpa using h1, h2⟩
theorem DfAll.at' : ∀ {vs : List L2.V} {ds : List PyData} {i : Nat} {v : L2.V}, DfAll W H vs ds → vs[i]? = some v → ∃ d, ds[i]? = some d ∧ Df W H v d
  | _, _, _, _, .nil, e => by simp at e
  | _, _, 0, _, .cons h _, e => by simp at e; subst e; exact ⟨_, rfl, h⟩
  | _, _, i + 1, _, .cons _ r, e => by
    obtain ⟨v, h1, h2⟩ := DfAll.at' r (i := i) (by simpa using e)
    exact ⟨v, by simpa using h1, h2⟩
theorem DfAll.app : ∀ {vs ws : List L2.V} {ds es : List PyData}, DfAll W H vs ds → DfAll W H ws es → DfAll W H (vs ++ ws) (ds ++ es)
  | _, _, _, _, .nil, h => h
  | _, _, _, _, .cons h r, q => .cons h (DfAll.app r q)
theorem DfAll.snoc {vs : List L2.V} {ds : List PyData} (h : DfAll W H vs ds) (q : Df W H v d) : DfAll W H (vs ++ [v]) (ds ++ [d]) := h.app (.cons q .nil)
theorem DfAll.drop : ∀ {vs : List L2.V} {ds : List PyData} (n : Nat), DfAll W H vs ds → DfAll W H (vs.drop n) (ds.drop n)
  | _, _, 0, h => h
  | _, _, _ + 1, .nil => .nil
  | _, _, n + 1, .cons _ r => DfAll.drop n r
theorem DfAll.take : ∀ {vs : List L2.V} {ds : List PyData} (n : Nat), DfAll W H vs ds → DfAll W H (vs.take n) (ds.take n)
  | _, _, 0, _ => .nil
  | _, _, _ + 1, .nil => .nil
  | _, _, n + 1, .cons h r => .cons h (DfAll.take n r)
theorem DfAll.strs (xs : List Str) : DfAll W H (xs.map L2.V.str) (xs.map PyData.str) := by
  induction xs with
  | nil => exact .nil
  | cons x r ih => exact .cons (.str x) ih
theorem DfAll.ints (xs : List Int) : DfAll W H (xs.map L2.V.int) (xs.map PyData.int) := by
  induction xs with
  | nil => exact .nil
  | cons x r ih => exact .cons (.int x) ih
theorem DfAll.bools (xs : List Bool) : DfAll W H (xs.map L2.V.bl) (xs.map PyData.bool) := by
  induction xs with
  | nil => exact .nil
  | cons x r ih => exact .cons (.bl x) ih
theorem DfAll.strs' : ∀ {xs : List Str} {vs : List L2.V}, DfAll W H vs (xs.map PyData.str) → vs = xs.map L2.V.str
  | [], _, .nil => rfl
  | x :: r, _, .cons (.str _) h => by rw [DfAll.strs' h]; rfl
theorem DfAll.ints' : ∀ {xs : List Int} {vs : List L2.V}, DfAll W H vs (xs.map PyData.int) → vs = xs.map L2.V.int
  | [], _, .nil => rfl
  | x :: r, _, .cons (.int _) h => by rw [DfAll.ints' h]; rfl
theorem Df.strL {xs : List Str} (h : Df W H (.ref p) (.list (xs.map PyData.str))) : p ∉ W ∧ H p = some (.lst (xs.map L2.V.str)) := by
  cases h with
  | lst n h r => rw [DfAll.strs' r] at h; exact ⟨n, h⟩
theorem Df.intL {xs : List Int} (h : Df W H (.ref p) (.list (xs.map PyData.int))) : p ∉ W ∧ H p = some (.lst (xs.map L2.V.int)) := by
  cases h with
  | lst n h r => rw [DfAll.ints' r] at h; exact ⟨n, h⟩
theorem Df.cells (h : Df W H (.ref p) (.list ds)) : ∃ xs, p ∉ W ∧ H p = some (.lst xs) ∧ DfAll W H xs ds := by
  cases h with
  | lst n h r => exact ⟨_, n, h, r⟩
theorem Df.cellsT (h : Df W H (.ref p) (.tuple ds)) : ∃ xs, p ∉ W ∧ H p = some (.tup xs) ∧ DfAll W H xs ds := by
  cases h with
  | tup n h r => exact ⟨_, n, h, r⟩
theorem Df.alive (h : Df W H (.ref p) d) : H p ≠ none := by
  cases h with
  | obj _ h => exact h
  | lst _ h _ => rw [h]; exact fun z => nomatch z
  | tup _ h _ => rw [h]; exact fun z => nomatch z
/-- a list that is being built at p -/
def Bld (W : List Addr) (H : Hp) (p : Addr) (ds : List PyData) : Prop := p ∉ W ∧ ∃ xs, H p = some (.lst xs) ∧ DfAll (p :: W) H xs ds
theorem Bld.done (h : Bld W H p ds) : Df W H (.ref p) (.list ds) := by
  obtain ⟨n, xs, h, r⟩ := h
  exact .lst n h (r.weak fun a z => List.mem_cons_of_mem _ z)
theorem Bld.ed (h : Bld W H p ds) (e : Ed U H H') (hv : ∀ a ∈ U, a ∈ W) : Bld W H' p ds := by
  obtain ⟨n, xs, h, r⟩ := h
  exact ⟨n, xs, e.1 _ _ (fun z => n (hv _ z)) h, r.ed e fun a z => List.mem_cons_of_mem _ (hv a z)⟩
theorem Bld.alive (h : Bld W H p ds) : H p ≠ none := by
  obtain ⟨n, xs, h, r⟩ := h
  rw [h]; exact fun z => nomatch z
end
/-! ### steps -/
section
variable {U W W' : List Addr} {H H' : Hp} {Q : VK} {v x y : L2.V} {d e : PyData} {vs : List L2.V} {ds es : List PyData} {K : PySem.W.Frag} {p q : Addr} {i : Int}
theorem g_dn (h : DfAll W H vs ds) (w : Wl W H) (k : ∀ p H', H p = none → Ed [] H H' → Df W H' (.ref p) (.list ds) → Q (.ref p) H') : ∀ p, H p = none → Q (.ref p) (upd H p (.lst vs)) :=
  fun p hp => k p _ hp (Ed.new hp) (.lst (w.not hp) upd_same (h.ed (Ed.new hp) no0))
theorem g_lend (h : Df W H (.ref p) (.list ds)) (k : Q (.int ds.length) H) : dLen K [.ref p] H Q := by
  obtain ⟨xs, n, hp, r⟩ := h.cells
  exact g_len_l (Or.inl (SqL.of hp)) (by rw [r.length]; exact k)
theorem g_addd (h1 : Df W H (.ref p) (.list ds)) (h2 : Df W H (.ref q) (.list es)) (w : Wl W H) (z : ds.length + es.length ≤ sizeLine) (k : ∀ p H', H p = none → Ed [] H H' → Df W H' (.ref p) (.list (ds ++ es)) → Q (.ref p) H') : dAdd (.ref p) (.ref q) H Q := by
  obtain ⟨xs, n, hp, r⟩ := h1.cells
  obtain ⟨ys, m, hq, t⟩ := h2.cells
  exact ⟨xs, ys, hp, hq, by rw [r.length, t.length]; exact z, g_dn (r.app t) w k⟩
theorem g_inds {t : Str} {ns : List Str} (h : Df W H (.ref p) (.list (ns.map PyData.str))) (k : Q (.bl (decide (t ∈ ns))) H) : dIn K (.str t) (.ref p) H Q := g_inLs (Or.inl (SqL.of h.strL.2)) k
theorem g_ninds {t : Str} {ns : List Str} (h : Df W H (.ref p) (.list (ns.map PyData.str))) (k : Q (.bl (!decide (t ∈ ns))) H) : dNotIn K (.str t) (.ref p) H Q := g_ninLs (Or.inl (SqL.of h.strL.2)) k
theorem g_iLd {Z : Addr → Prop} (z : Df W H (.ref p) (.list ds)) (h : Z p) : ∃ a, L2.V.ref p = .ref a ∧ (∃ xs, SqL K H a xs) ∧ Z a := by
  obtain ⟨xs, n, hp, r⟩ := z.cells
  exact ⟨p, rfl, ⟨xs, SqL.of hp⟩, h⟩
theorem g_iEd {Z : Addr → Prop} (z : Df W H (.ref p) (.list ds)) (h : Z p) : ∃ a xs, [L2.V.ref p] = [.ref a] ∧ SqL K H a xs ∧ Z a := by
  obtain ⟨xs, n, hp, r⟩ := z.cells
  exact ⟨p, xs, rfl, SqL.of hp, h⟩
end
section
variable {W : List Addr} {H H' : Hp} {p : Addr} {vs : List L2.V} {ds : List PyData} {ts : List Str}
theorem new_l (h : upd H p (.lst vs) = H') (hp : H p = none) (r : DfAll W H vs ds) (w : Wl W H) : Ed [] H H' ∧ Df W H' (.ref p) (.list ds) := by
  subst h
  exact ⟨Ed.new hp, .lst (w.not hp) upd_same (r.ed (Ed.new hp) no0)⟩
theorem new_t (h : upd H p (.tup vs) = H') (hp : H p = none) (r : DfAll W H vs ds) (w : Wl W H) : Ed [] H H' ∧ Df W H' (.ref p) (.tuple ds) := by
  subst h
  exact ⟨Ed.new hp, .tup (w.not hp) upd_same (r.ed (Ed.new hp) no0)⟩
end
/-! ### loops over data -/
section
variable {U W : List Addr} {H H' : Hp} {σ : L2.St} {ds : List PyData} {K : PySem.W.Frag} {p : Addr} {g : TG} {tb : TS} {nx : L2.St → Hp → Prop} {rt : VK} {bk ct : L2.St → Hp → Prop}
variable {tt : TT} {te : TE} {ws : List Nat} {D : Addr} {Qd : Hp → Prop}
/-- a list comprehension: an invariant over what is made so far; J1 of the heap -/
theorem lc_gen {σw : L2.St} (hσ : wipe σ ws = σw) {J : It} {n : Nat} {G : Hp → Prop} {Y : Nat → Hp → L2.V → Hp → Prop} (w : Walk J n G Y) (hn : n < sizeLine) (hD : H D = none) (hw : Wl W H) (hV : ∀ a ∈ U, a ∈ W) (I : Nat → List PyData → Prop) (J1 : Hp → Prop) (hJ : ∀ H' H'', J1 H' → Ed [D] H' H'' → J1 H'') (hJ0 : J1 H) (hI0 : I 0 [])
    (hG : ∀ H', Ed U H H' → G H')
    (hs : ∀ i x acc H' H2 (R : VK) (N : Hp → Prop), i < n → I i acc → J1 H' → Ed U H H' → Wl (D :: W) H' → Y i H' x H2 → (∀ y H4 dy, Ed U H' H4 → Df (D :: W) H4 y dy → J1 H4 → I (i + 1) (acc ++ [dy]) → R y H4) → (∀ H3, Ed U H' H3 → J1 H3 → I (i + 1) acc → N H3) →
      g x σw H2 fun σ2 H2 => wipe σ2 ws = σw ∧ tt σ2 H2 fun b H3 => if b = true then te σ2 H3 R else N H3)
    (hd : ∀ acc H', I n acc → J1 H' → Ed U H H' → Df W H' (.ref D) (.list acc) → acc.length ≤ n → Qd H') : LoopC J g tt te ws σ H D Qd := by
  subst hσ
  have nD : D ∉ U := fun z => hw D (hV D z) hD
  have nDW : D ∉ W := fun z => hw D z hD
  have e0 : ∀ {H1 H2 : Hp} {T : List Addr}, Ed U H H1 → Ed T H1 H2 → (∀ a ∈ T, a ∈ U ∨ a = D) → Ed U H H2 := fun h1 h2 hu => Ed.tr h1 h2 fun a ha => (hu a ha).elim .inl fun z => .inr (z ▸ hD)
  refine lc_by w (fun i H' => ∃ acc, Ed U H H' ∧ J1 H' ∧ I i acc ∧ Bld W H' D acc ∧ acc.length ≤ i) ⟨[], e0 Ed.refl (Ed.new hD) (no0), hJ _ _ hJ0 Ed.put, hI0, ⟨nDW, [], upd_same, .nil⟩, Nat.le_refl _⟩ (fun i H' _ ⟨acc, h1, _⟩ => hG _ h1) ?_ ?_
  · rintro i x H1 H2 hi ⟨acc, h1, h2, h3, h4, h5⟩ hy
    have hD1 : H1 D ≠ none := h4.alive
    refine hs i x acc H1 H2 _ _ hi h3 h2 h1 (fun a ha => ?_) hy ?_ ?_
    · rcases List.mem_cons.mp ha with rfl | ha
      · exact hD1
      · exact hw.ed h1 a ha
    · intro y H4 dy z4 z5 z6 z7
      obtain ⟨m, xs, z8, z9⟩ := h4.ed z4 hV
      exact ⟨xs, z8, by rw [z9.length]; omega, acc ++ [dy], e0 (e0 h1 z4 fun a h => .inl h) Ed.put (fun a h => .inr (List.mem_singleton.mp h)), hJ _ _ z6 Ed.put, z7, ⟨nDW, _, upd_same, (z9.snoc z5).ed Ed.put fun a z => by rw [List.mem_singleton.mp z]; exact List.mem_cons_self ..⟩, by rw [List.length_append, List.length_singleton]; omega⟩
    · intro H3 z3 z4 z5
      exact ⟨acc, e0 h1 z3 fun a h => .inl h, z4, z5, h4.ed z3 hV, by omega⟩
  · rintro H1 ⟨acc, h1, h2, h3, h4, h5⟩
    exact hd acc H1 h3 h2 h1 h4.done h5
/-- over a list of data -/
theorem lc_df {σw : L2.St} (hσ : wipe σ ws = σw) (h : Df W H (.ref p) (.list ds)) (hn : ds.length < sizeLine) (hD : H D = none) (hw : Wl W H) (hV : ∀ a ∈ U, a ∈ W) (I : Nat → List PyData → Prop) (J1 : Hp → Prop) (hJ : ∀ H' H'', J1 H' → Ed [D] H' H'' → J1 H'') (hJ0 : J1 H) (hI0 : I 0 [])
    (hs : ∀ i x d acc H' (R : VK) (N : Hp → Prop), ds[i]? = some d → I i acc → J1 H' → Ed U H H' → Wl (D :: W) H' → Df (D :: W) H' x d → (∀ y H4 dy, Ed U H' H4 → Df (D :: W) H4 y dy → J1 H4 → I (i + 1) (acc ++ [dy]) → R y H4) → (∀ H3, Ed U H' H3 → J1 H3 → I (i + 1) acc → N H3) →
      g x σw H' fun σ2 H2 => wipe σ2 ws = σw ∧ tt σ2 H2 fun b H3 => if b = true then te σ2 H3 R else N H3)
    (hd : ∀ acc H', I ds.length acc → J1 H' → Ed U H H' → Df W H' (.ref D) (.list acc) → acc.length ≤ ds.length → Qd H') : LoopC (Itl K p) g tt te ws σ H D Qd := by
  have h' := h.more hD
  obtain ⟨xs, n, hp, r⟩ := h'.cells
  have hVW : ∀ a ∈ U, a ∈ D :: W := fun a z => List.mem_cons_of_mem _ (hV a z)
  have l := r.length
  refine lc_gen hσ (walk_list (xs := xs)) (by rw [l]; exact hn) hD hw hV I J1 hJ hJ0 hI0 (fun H' e => SqL.of (e.1 _ _ (fun z => n (hVW _ z)) hp)) ?_ (by rw [l]; exact hd)
  rintro i x acc H1 H2 R N hi h1 h2 h3 h4 ⟨rfl, e⟩ h5 h6
  obtain ⟨d, e1, e2⟩ := (r.ed h3 hVW).at' e
  exact hs i x d acc _ R N e1 h1 h2 h3 h4 e2 h5 h6
/-- over enumerate(list) -/
theorem lc_en {σw : L2.St} (hσ : wipe σ ws = σw) (h : Df W H (.ref p) (.list ds)) (hn : ds.length < sizeLine) (hD : H D = none) (hw : Wl W H) (hV : ∀ a ∈ U, a ∈ W) (I : Nat → List PyData → Prop) (J1 : Hp → Prop) (hJ : ∀ H' H'', J1 H' → Ed [D] H' H'' → J1 H'') (hJn : ∀ H' H'', J1 H' → Ed [] H' H'' → J1 H'') (hJ0 : J1 H) (hI0 : I 0 [])
    (hs : ∀ i x t d acc H' (R : VK) (N : Hp → Prop), ds[i]? = some d → I i acc → J1 H' → Ed U H H' → Wl (D :: W) H' → SqT K H' t [.int (i : Nat), x] → Df (D :: W) H' x d → (∀ y H4 dy, Ed U H' H4 → Df (D :: W) H4 y dy → J1 H4 → I (i + 1) (acc ++ [dy]) → R y H4) → (∀ H3, Ed U H' H3 → J1 H3 → I (i + 1) acc → N H3) →
      g (.ref t) σw H' fun σ2 H2 => wipe σ2 ws = σw ∧ tt σ2 H2 fun b H3 => if b = true then te σ2 H3 R else N H3)
    (hd : ∀ acc H', I ds.length acc → J1 H' → Ed U H H' → Df W H' (.ref D) (.list acc) → acc.length ≤ ds.length → Qd H') : LoopC (Ite K p) g tt te ws σ H D Qd := by
  have h' := h.more hD
  obtain ⟨xs, n, hp, r⟩ := h'.cells
  have hVW : ∀ a ∈ U, a ∈ D :: W := fun a z => List.mem_cons_of_mem _ (hV a z)
  have l := r.length
  refine lc_gen hσ (walk_enum (xs := xs)) (by rw [l]; exact hn) hD hw hV I J1 hJ hJ0 hI0 (fun H' e => SqL.of (e.1 _ _ (fun z => n (hVW _ z)) hp)) ?_ (by rw [l]; exact hd)
  rintro i x acc H1 H2 R N hi h1 h2 h3 h4 ⟨t, x1, y1, rfl, ht, rfl, e1, e2⟩ h5 h6
  cases e1
  obtain ⟨d, e3, e4⟩ := (r.ed h3 hVW).at' e2
  have e5 : Ed [] H1 (upd H1 t (.tup [.int (i : Nat), y1])) := Ed.new ht
  exact hs i _ t d acc _ R N e3 h1 (hJn _ _ h2 e5) (h3.tr e5 no0) (h4.ed e5) (SqT.of upd_same) (e4.ed e5 no0) (fun y H4 dy k1 => h5 y H4 dy ((Ed.tr Ed.refl e5 no0).tr k1 fun a z => .inl z)) (fun H3 k1 => h6 H3 ((Ed.tr Ed.refl e5 no0).tr k1 fun a z => .inl z))
end
end NL
namespace NL
open PySem L2
/-- the bag of draws at b: two ints -/
def Bag (H : Hp) (b : Addr) : Prop := ∃ x y : Int, H b = some (.lst [.int x, .int y])
theorem Bag.at {H : Hp} {b : Addr} {x y : Int} : Bag (upd H b (.lst [.int x, .int y])) b := ⟨x, y, upd_same⟩
theorem Bag.new {H : Hp} {b p : Addr} {o : HO} (h : Bag H b) (n : H p = none) : Bag (upd H p o) b := by
  obtain ⟨x, y, e⟩ := h
  exact ⟨x, y, by rw [upd_ne (ne_of_none e n)]; exact e⟩
theorem Bag.put {H : Hp} {b p : Addr} {o : HO} (h : Bag H b) (n : b ≠ p) : Bag (upd H p o) b := by
  obtain ⟨x, y, e⟩ := h
  exact ⟨x, y, by rw [upd_ne n]; exact e⟩
theorem Bag.ne {H : Hp} {b p : Addr} (h : Bag H b) (n : H p = none) : p ≠ b := by
  obtain ⟨x, y, e⟩ := h
  exact (ne_of_none e n).symm
section
variable {U W : List Addr} {H H' : Hp} {b p a : Addr} {ds es : List PyData} {d : PyData} {K : PySem.W.Frag}
theorem Bag.ed (h : Bag H b) (e : Ed U H H') (n : b ∉ U) : Bag H' b := by
  obtain ⟨x, y, q⟩ := h
  exact ⟨x, y, e.1 _ _ n q⟩
theorem Bag.alive (h : Bag H b) : H b ≠ none := by
  obtain ⟨x, y, q⟩ := h
  rw [q]; exact fun z => nomatch z
theorem sub1 (h : b ∈ W) : ∀ a ∈ [b], a ∈ W := fun a z => by rw [List.mem_singleton.mp z]; exact h
theorem subr : ∀ a ∈ W, a ∈ W := fun _ z => z
theorem subc {U : List Addr} (h : ∀ a ∈ U, a ∈ W) : ∀ a ∈ U, a ∈ b :: W := fun a z => List.mem_cons_of_mem _ (h a z)
theorem edv1 (h : b ∈ U ∨ H b = none) : ∀ a ∈ [b], a ∈ U ∨ H a = none := fun a z => by rw [List.mem_singleton.mp z]; exact h
theorem edvl {V : List Addr} (h : ∀ a ∈ V, a ∈ U) : ∀ a ∈ V, a ∈ U ∨ H a = none := fun a z => .inl (h a z)
theorem Wl.cons' (h : H a ≠ none) (r : Wl W H) : Wl (a :: W) H := fun c hc => by
  rcases List.mem_cons.mp hc with rfl | hc
  · exact h
  · exact r c hc
theorem Wl.tail (h : Wl (a :: W) H) : Wl W H := fun c hc => h c (List.mem_cons_of_mem _ hc)
theorem nb_bld (h : Bld W H p ds) (hb : b ∈ W) : b ∉ [p] := fun z => h.1 (by rw [← List.mem_singleton.mp z]; exact hb)
theorem Ed.weak {V : List Addr} (e : Ed U H H') (h : ∀ a ∈ U, a ∈ V) : Ed V H H' := ⟨fun a o n q => e.1 a o (fun z => n (h a z)) q, e.2⟩
end
section
variable {U W : List Addr} {H0 H1 H2 : Hp} {p q b : Addr} {v : V} {d : PyData} {ds : List PyData}
theorem Df.via (e : Ed [p] H1 H2) (hp : H0 p = none) (ed : Ed W H0 H2) (h : Df W H0 v d) : Df W H2 v d := h.ed ed subr
theorem Bld.via (e : Ed [p] H1 H2) (hp : H0 p = none) (ed : Ed W H0 H2) (h : Bld W H0 q ds) : Bld W H2 q ds := h.ed ed subr
theorem Bag.via (e : Ed [p] H1 H2) (hp : H0 p = none) (ed : Ed [] H0 H2) (h : Bag H0 b) : Bag H2 b := h.ed ed List.not_mem_nil
end
/-- what lies in H lies in H' -/
def Al (H H' : Hp) : Prop := ∀ a, H a ≠ none → H' a ≠ none
theorem Al.refl {H : Hp} : Al H H := fun _ h => h
theorem Al.of {U : List Addr} {H0 H1 H2 : Hp} (e : Ed U H1 H2) (h : Al H0 H1) : Al H0 H2 := fun a z => e.2 a (h a z)
theorem Al.free {H H' : Hp} {a : Addr} (e : Al H H') (h : H' a = none) : H a = none := by
  by_cases z : H a = none
  · exact z
  · exact absurd h (e a z)
theorem Sh.strs {xs : List Str} (h : ∀ x ∈ xs, PyData.strOk x = true) : Sh (.list (xs.map PyData.str)) := (Sd.list (n := 0) (Sd.map fun x hx => Sd.str (h x hx))).sh (by decide)
theorem Sh.nil : Sh (.list []) := (Sd.list (n := 0) Sd.nil).sh (by decide)
theorem Sh.ints {xs : List Int} : Sh (.list (xs.map PyData.int)) := (Sd.list (n := 0) (Sd.map fun x hx => Sd.int x)).sh (by decide)
theorem g_tyB {K : PySem.W.Frag} {W : List Addr} {H : Hp} {p : Addr} {ds : List PyData} {R : Prop} (h : Bld W H p ds) (k : R) : tyV K "list" (.ref p) H ∧ R := by
  obtain ⟨_, xs, h, _⟩ := h
  exact g_tyL (SqL.of h) k
theorem g_tyD {K : PySem.W.Frag} {W : List Addr} {H : Hp} {p : Addr} {ds : List PyData} {R : Prop} (h : Df W H (.ref p) (.list ds)) (k : R) : tyV K "list" (.ref p) H ∧ R := by
  obtain ⟨xs, _, h, _⟩ := h.cells
  exact g_tyL (SqL.of h) k
/-! ### more rules -/
section
variable {X : Cx} (K : PySem.W.Frag) {e e2 : Expr} {ta : TA} {p pos tpos : Pos} {elts : List Expr} {kk : Nat}
end
section
variable {U V W : List Addr} {H H' : Hp} {σ : L2.St} {ds es : List PyData} {K : PySem.W.Frag} {p q : Addr} {Q : VK}
theorem g_iZ {ta : TA} {R : It → Hp → Prop} (h : ta σ H fun vs H1 => ∃ a b xs ys, vs = [.ref a, .ref b] ∧ SqL K H1 a xs ∧ SqL K H1 b ys ∧ R (Itz K a b) H1) : iZip K ta σ H R := h
theorem g_iZd {Z : Addr → Addr → Prop} (z1 : Df W H (.ref p) (.list ds)) (z2 : Df W H (.ref q) (.list es)) (h : Z p q) : ∃ a b xs ys, [L2.V.ref p, L2.V.ref q] = [.ref a, .ref b] ∧ SqL K H a xs ∧ SqL K H b ys ∧ Z a b := by
  obtain ⟨xs, n, hp, r⟩ := z1.cells
  obtain ⟨ys, m, hq, t⟩ := z2.cells
  exact ⟨p, q, xs, ys, rfl, SqL.of hp, SqL.of hq, h⟩
variable {g : TG} {tb : TS} {nx : L2.St → Hp → Prop} {rt : VK} {bk ct : L2.St → Hp → Prop}
end
/-! ### a cut: what comes behind an if, once -/
def tSeqC (t u : TS) : TS := tSeq t u
theorem pss_cut {X : Cx} {s : Stmt} {r : List Stmt} {t u : TS} (h1 : PS X s t) (h2 : PSs X r u) : PSs X (s :: r) (tSeqC t u) := pss_cons h1 h2
theorem g_par {i j : Nat} {ta : TA} {nx : L2.St → Hp → Prop} {rt : VK} {bk ct : L2.St → Hp → Prop} {σ : L2.St} {H : Hp} (h : ta σ H fun vs H1 => ∃ v w, vs = [v, w] ∧ gName i v σ H1 fun σ1 H2 => gName j w σ1 H2 nx) : tPar i j ta ⟨nx, rt, bk, ct⟩ σ H := h
theorem g_par2 {v w : V} {Z : V → V → Prop} (h : Z v w) : ∃ a b, [v, w] = [a, b] ∧ Z a b := ⟨v, w, rfl, h⟩
theorem g_iTd {K : PySem.W.Frag} {W : List Addr} {H : Hp} {p : Addr} {ds : List PyData} {Z : Addr → Prop} (z : Df W H (.ref p) (.tuple ds)) (h : Z p) : ∃ a, V.ref p = .ref a ∧ (∃ xs, SqT K H a xs) ∧ Z a := by
  obtain ⟨xs, n, hp, r⟩ := z.cellsT
  exact ⟨p, rfl, ⟨xs, SqT.of hp⟩, h⟩
theorem g_uncut {t u : TS} {D : Ends} {σ : L2.St} {H : Hp} (h : tSeq t u D σ H) : tSeqC t u D σ H := h
/-! ### dicts of texts -/
section
variable {U W : List Addr} {H H' : Hp} {p : Addr} {K : PySem.W.Frag} {Q : VK}
/-- the dict kvs lies at p, p is not in W -/
def Dk (W : List Addr) (H : Hp) (p : Addr) (kvs : List (Key × V)) : Prop := p ∉ W ∧ H p = some (.dK kvs)
theorem Dk.ed {kvs : List (Key × V)} (h : Dk W H p kvs) (e : Ed U H H') (hv : ∀ a ∈ U, a ∈ W) : Dk W H' p kvs := ⟨h.1, e.1 _ _ (fun z => h.1 (hv _ z)) h.2⟩
theorem Dk.more {kvs : List (Key × V)} {q : Addr} (hq : H q = none) (h : Dk W H p kvs) : Dk (q :: W) H p kvs := ⟨fun z => (List.mem_cons.mp z).elim (ne_of_none h.2 hq) h.1, h.2⟩
theorem Dk.via {kvs : List (Key × V)} {H0 H1 H2 : Hp} {q : Addr} (e : Ed [q] H1 H2) (hq : H0 q = none) (ed : Ed W H0 H2) (h : Dk W H0 p kvs) : Dk W H2 p kvs := h.ed ed subr
theorem Dk.df {kvs : List (Key × V)} (h : Dk W H p kvs) : Df W H (.ref p) (ob p) := .obj h.1 (by rw [h.2]; exact fun z => nomatch z)
theorem Dk.alive {kvs : List (Key × V)} (h : Dk W H p kvs) : H p ≠ none := by rw [h.2]; exact fun z => nomatch z
theorem g_disp {trs : List (TE × TE)} {σ : L2.St} (h : ∀ p H0, H p = none → Ed [] H H0 → H0 p = some (.dK []) → tPairs trs σ H0 fun ps H2 => H2 p = some (.dK []) ∧ ∃ kvs : List (Key × V), ps = kvs.map (fun kv => (kV kv.1, kv.2)) ∧ kvs.length ≤ 15 ∧ Q (.ref p) (upd H2 p (.dK (mergeK [] kvs)))) : tDisp trs σ H Q :=
  fun p hp => h p _ hp (Ed.new hp) upd_same
theorem g_pr0 {σ : L2.St} {QP : List (V × V) → Hp → Prop} (h : QP [] H) : tPairs [] σ H QP := h
theorem g_pr {σ : L2.St} {tk tv : TE} {trs : List (TE × TE)} {QP : List (V × V) → Hp → Prop} (h : tk σ H fun x H1 => tv σ H1 fun y H2 => tPairs trs σ H2 fun ps H3 => QP ((x, y) :: ps) H3) : tPairs ((tk, tv) :: trs) σ H QP := h
theorem g_din {σ : L2.St} {td ty : TE} (h : ty σ H fun y H1 => td σ H1 fun x H2 => ∃ a o, x = .ref a ∧ DGet H2 a y o ∧ Q (.bl o.isSome) H2) : tDIn ty td σ H Q := h
theorem g_dnin {σ : L2.St} {td ty : TE} (h : ty σ H fun y H1 => td σ H1 fun x H2 => ∃ a o, x = .ref a ∧ DGet H2 a y o ∧ Q (.bl (!o.isSome)) H2) : tDNotIn ty td σ H Q := h
theorem g_dget2 {σ : L2.St} {td ty tx : TE} (h : td σ H fun x H1 => ∃ a, x = .ref a ∧ IsD H1 a ∧ ty σ H1 fun y H2 => tx σ H2 fun z H3 => ∃ o, DGet H3 a y o ∧ Q (o.getD z) H3) : tDGet2 td ty tx σ H Q := h
theorem g_isd {kvs : List (Key × V)} {Z : Addr → Prop} (z1 : Dk W H p kvs) (h : Z p) : ∃ a, V.ref p = .ref a ∧ IsD H a ∧ Z a := ⟨p, rfl, .inl ⟨kvs, .inl z1.2⟩, h⟩
theorem g_dgd {kvs : List (Key × V)} {z : Str} {v : V} {Z : V → Prop} (z1 : Dk W H p kvs) (z2 : valV kvs (.inr z) = some v) (h : Z v) : ∃ a v, V.ref p = .ref a ∧ DGet H a (.str z) (some v) ∧ Z v := g_dgs z1.2 z2 h
end
end NL
namespace NL
open PySem L2
/-! ### a, b, *rest = a list -/
section
variable {X : Cx} {pos p : Pos}
end
/-! ### a class called by a local name -/
section
variable {X : Cx} {k i : Nat} {x m : Str} {C : Addr} {e o : Expr} {es : List Expr} {t : TA} {ta : TE} {p pos apos : Pos} {ps : List Str} {sp : Sp} {W : WX}
def tMakeL (i : Nat) (C : Addr) (sp : Sp) (E : L2.St → XK) (t : TA) : TE := fun σ H Q => σ[i]? = some (some (.ref C)) ∧ tMakeS C sp E t σ H Q
theorem g_makeL {E : L2.St → XK} {σ : L2.St} {H : Hp} {Q : VK} (e1 : σ[i]? = some (some (.ref C))) (h : tMakeS C sp E t σ H Q) : tMakeL i C sp E t σ H Q := ⟨e1, h⟩
/-! ### classmethods -/
structure CmC (P : Program) (w : World) (K : PySem.W.Frag) (mg : Str → Option Value) (base : Heap) (k : Nat) (C : Addr) (m : Str) (ps : List Str) (sp : Sp) : Prop where
  rd : ClX.CRead K C (.type "type")
  fn : ∃ (p g : Addr) (fd : FuncData), ClX.CMet K C (.type "type") m p g ∧ Binds K fd ps [] ∧ FnOk P w K mg base (L2.CX P w) k g fd ps sp
def tCM (C : Addr) (sp : Sp) (E : L2.St → XK) (ta : TE) (t : TA) : TE := fun σ H Q => ta σ H fun x H1 => x = .ref C ∧ t σ H1 fun vs H2 => sp (.ref C :: vs) H2 Q (E σ)
theorem g_cm {E : L2.St → XK} {σ : L2.St} {H : Hp} {Q : VK} (h : ta σ H fun x H1 => x = .ref C ∧ t σ H1 fun vs H2 => sp (.ref C :: vs) H2 Q (E σ)) : tCM C sp E ta t σ H Q := h
end
/-! ### the facts of classmethods; a hook that knows the interpreter's statics -/
inductive Fy where
  | crd (x : Str) | cm (x m : Str)
def Fy.ok (K : PySem.W.Frag) : Fy → Bool
  | .crd x => PySem.W.readsIn K (He.ga K x) (.type "type")
  | .cm x m => He5.wrapB K (He.ga K x) "classmethod" "classmethod.__get__" m && PySem.W.fnIn K (He5.wf K (He.ga K x) "classmethod" m)
def fyB (l : List Fy) (K : PySem.W.Frag) : Bool := l.all fun f => f.ok K
def obsN0 (fn : List He5.DefA) (ex : PySem.W.Frag → Bool) (K : PySem.W.Frag) : He.AlD := (ex K && fn.all fun d => d.ok K, fn.map fun d => He5.fnA K (d.at_ K))
def SaysN (fn : List He5.DefA) (ex : PySem.W.Frag → Bool) (K : PySem.W.Frag) : Prop := obsN0 fn ex K = He5.valA fn
theorem SaysN.more {fn : List He5.DefA} {ex : PySem.W.Frag → Bool} {K : PySem.W.Frag} (c : SaysN fn ex K) : ex K = true := by
  have q : (ex K && fn.all fun d => d.ok K) = true := congrArg (fun z : He.AlD => z.1) c
  rw [Bool.and_eq_true] at q
  exact q.1
theorem SaysN.def_ {fn : List He5.DefA} {ex : PySem.W.Frag → Bool} {K : PySem.W.Frag} (c : SaysN fn ex K) (i : Nat) {d : He5.DefA} (h : fn[i]? = some d := by rfl) : ∃ fd, L2.FunD K d.name d.qual d.params d.body d.scope (d.dvs K) (d.kws K) (d.at_ K) fd := by
  have q : (ex K && fn.all fun d => d.ok K) = true := congrArg (fun z : He.AlD => z.1) c
  rw [Bool.and_eq_true] at q
  have e : fn.map (fun d => He5.fnA K (d.at_ K)) = fn.map He5.DefA.val := congrArg (fun z : He.AlD => z.2) c
  have e2 : (fn.map fun d => He5.fnA K (d.at_ K))[i]? = (fn.map He5.DefA.val)[i]? := by rw [e]
  rw [List.getElem?_map, List.getElem?_map, h] at e2
  exact He5.DefA.funD (Option.some.inj e2) (List.all_eq_true.mp q.2 d (List.mem_of_getElem? h))
/-! ### list(text), tuple(x), dict(d), a, b, c = x, y, z -/
def sgn (x : Str) : List Str := x.cps.toList.map fun c => (⟨#[c]⟩ : Str)
theorem g_par3 {i j l : Nat} {ta : TA} {nx : L2.St → Hp → Prop} {rt : VK} {bk ct : L2.St → Hp → Prop} {σ : L2.St} {H : Hp} (h : ta σ H fun vs H1 => ∃ u v w, vs = [u, v, w] ∧ gName i u σ H1 fun σ1 H2 => gName j v σ1 H2 fun σ2 H3 => gName l w σ2 H3 nx) : tPar3 i j l ta ⟨nx, rt, bk, ct⟩ σ H := h
theorem g_par33 {u v w : V} {Z : V → V → V → Prop} (h : Z u v w) : ∃ a b c, [u, v, w] = [a, b, c] ∧ Z a b c := ⟨u, v, w, rfl, h⟩
theorem g_star {K : PySem.W.Frag} {te : TE} {t : TA} {σ : L2.St} {H : Hp} {QA : List V → Hp → Prop} (h : te σ H fun x H1 => ∃ p xs, x = V.ref p ∧ (SqT K H1 p xs ∨ SqL K H1 p xs) ∧ t σ H1 fun ys H2 => QA (xs ++ ys) H2) : StX.tStar K te t σ H QA := h
end NL
namespace NQ
open PySem L2
/-! ### trees: what a value stands for, without addresses -/
inductive T where
  | non | bl (b : Bool) | int (i : Int) | str (s : Str)
  | lst (ts : List T) | tup (ts : List T) | ctup (ts : List T) | clst (ts : List T)
  | dic (ks : List Key) (ts : List T) | dit (ks : List (List Key)) (ts : List T)
  | ins (c : Str) (fs : List Str) (ts : List T)
  | gl (x : Str) | ty (n : String)
def T.kids : T → List T
  | .lst ts => ts | .tup ts => ts
  | .dic _ ts => ts | .dit _ ts => ts | .ins _ _ ts => ts
  | _ => []
def T.sv : T → V
  | .bl b => .bl b | .int i => .int i | .str s => .str s | .ty n => .ty n
  | _ => .non
/-- a flat scalar -/
def T.isS : T → Bool
  | .non => true | .bl _ => true | .int _ => true | .str s => PyData.strOk s | _ => false
def Cell (K : PySem.W.Frag) (H : Hp) (a : Addr) (t : T) (vs : List V) : Prop := match t with
  | .lst _ => H a = some (.lst vs)
  | .tup _ => H a = some (.tup vs)
  | .dic ks _ => ks.length = vs.length ∧ H a = some (.dK (ks.zip vs))
  | .dit ks _ => ks.length = vs.length ∧ H a = some (.dT (ks.zip vs))
  | .ins c fs _ => fs.length = vs.length ∧ ∃ dx, H a = some (.ins (He.ga K c) dx (fs.zip vs))
  | _ => False
def CellR (K : PySem.W.Frag) (H : Hp) (a : Addr) (t : T) (vs : List V) : Prop := match t with
  | .lst _ => Rd H a (.lst vs)
  | .tup _ => H a = some (.tup vs)
  | .dic ks _ => ks.length = vs.length ∧ Rd H a (.dK (ks.zip vs))
  | .dit ks _ => ks.length = vs.length ∧ Rd H a (.dT (ks.zip vs))
  | .ins c fs _ => fs.length = vs.length ∧ ∃ dx, H a = some (.ins (He.ga K c) dx (fs.zip vs))
  | _ => False
def Sc (K : PySem.W.Frag) (v : V) (t : T) : Prop := match t with
  | .non => v = .non
  | .bl b => v = .bl b
  | .int i => v = .int i
  | .str s => v = .str s ∧ PyData.strOk s = true
  | .gl x => v = .ref (He.ga K x)
  | .ty n => v = .ty n
  | .ctup ts => ∃ a, v = .ref a ∧ (∀ H : Hp, SqT K H a (ts.map T.sv)) ∧ ts.all T.isS = true
  | .clst ts => ∃ a, v = .ref a ∧ (∀ H : Hp, SqL K H a (ts.map T.sv)) ∧ ts.all T.isS = true
  | _ => False
/-! ### edges by predicates -/
/-- something lies at a, and no tuple -/
def NT (H : Hp) (a : Addr) : Prop := H a ≠ none ∧ ∀ xs, H a ≠ some (.tup xs)
def EdP (U : Addr → Prop) (H H' : Hp) : Prop := (∀ a o, ¬ U a → H a = some o → H' a = some o) ∧ (∀ a, H a ≠ none → H' a ≠ none) ∧ ∀ a, NT H a → NT H' a
abbrev noA : Addr → Prop := fun _ => False
def Xt (U U' : Addr → Prop) (H H' : Hp) : Prop := EdP U H H' ∧ ∀ a, U' a → U a ∨ H a = none
section
variable {U U' V' : Addr → Prop} {H H' H0 H1 H2 : Hp} {a p : Addr} {o : HO}
theorem NT.upd (ho : ∀ xs, o ≠ .tup xs := by exact fun _ z => nomatch z) : NT (upd H p o) p := by
  unfold NT
  rw [upd_same]
  exact ⟨(fun z => nomatch z), fun xs z => ho xs (Option.some.inj z)⟩
theorem NT.eq (h : NT H a) (e : H' a = H a) : NT H' a := by unfold NT; rw [e]; exact h
theorem NT.of {u : HO} (e : H a = some u) (ho : ∀ xs, u ≠ .tup xs := by exact fun _ z => nomatch z) : NT H a := by
  unfold NT
  rw [e]
  exact ⟨(fun z => nomatch z), fun xs z => ho xs (Option.some.inj z)⟩
theorem EdP.refl : EdP U H H := ⟨fun _ _ _ e => e, fun _ h => h, fun _ h => h⟩
theorem EdP.free (e : EdP U H H') (h : H' a = none) : H a = none := by
  by_cases z : H a = none
  · exact z
  · exact absurd h (e.2.1 a z)
theorem EdP.tr (h1 : EdP U H0 H1) (h2 : EdP U' H1 H2) (hv : ∀ a, U' a → U a ∨ H0 a = none) : EdP U H0 H2 :=
  ⟨fun a o n e => h2.1 a o (fun z => (hv a z).elim n (fun q => by rw [q] at e; cases e)) (h1.1 a o n e), fun a h => h2.2.1 a (h1.2.1 a h), fun a h => h2.2.2 a (h1.2.2 a h)⟩
theorem EdP.weak (h : EdP U H H') (hv : ∀ a, U a → U' a) : EdP U' H H' := ⟨fun a o n e => h.1 a o (fun z => n (hv a z)) e, h.2⟩
theorem EdP.new (hp : H p = none) : EdP noA H (upd H p o) := ⟨fun a u _ e => by rw [upd_ne (ne_of_none e hp)]; exact e, fun a h => by
  rw [upd_ne (fun z : a = p => h (by rw [z]; exact hp))]; exact h, fun a h => by
  unfold NT
  rw [upd_ne (fun z : a = p => h.1 (by rw [z]; exact hp))]; exact h⟩
theorem EdP.put (ho : ∀ xs, o ≠ .tup xs := by exact fun _ z => nomatch z) : EdP (fun a => a = p) H (upd H p o) := ⟨fun a u n e => by rw [upd_ne n]; exact e, fun a h => by
  by_cases z : a = p
  · rw [z, upd_same]; exact fun z => nomatch z
  · rw [upd_ne z]; exact h, fun a h => by
  unfold NT
  by_cases z : a = p
  · rw [z, upd_same]; exact ⟨(fun z => nomatch z), fun xs z => ho xs (Option.some.inj z)⟩
  · rw [upd_ne z]; exact h⟩
theorem EdP.ed {L : List Addr} (h : NL.Ed L H H') (hn : ∀ a ∈ L, NT H a → NT H' a) : EdP (fun a => a ∈ L) H H' := ⟨fun a o n e => h.1 a o n e, h.2, fun a k => by
  by_cases z : a ∈ L
  · exact hn a z k
  · cases q : H a with
    | none => exact absurd q k.1
    | some o =>
      unfold NT
      rw [h.1 a o z q, ← q]
      exact k⟩
theorem Xt.refl : Xt U U H H := ⟨.refl, fun _ h => .inl h⟩
theorem Xt.tr (h1 : Xt U U' H0 H1) (h2 : Xt U' V' H1 H2) : Xt U V' H0 H2 :=
  ⟨h1.1.tr h2.1 h1.2, fun a z => (h2.2 a z).elim (fun q => h1.2 a q) fun q => .inr (h1.1.free q)⟩
theorem Xt.ed0 (h1 : Xt U U' H0 H1) (h2 : EdP noA H1 H2) : Xt U U' H0 H2 := ⟨h1.1.tr h2 fun _ z => z.elim, h1.2⟩
end
/-! ### frozen data: nothing of it lies in G -/
mutual
inductive Df (K : PySem.W.Frag) (G : Addr → Prop) (H : Hp) : V → T → Prop
  | sc {v : V} {t : T} : Sc K v t → Df K G H v t
  | nd {a : Addr} {t : T} {vs : List V} : ¬ G a → CellR K H a t vs → DfL K G H vs t.kids → Df K G H (.ref a) t
inductive DfL (K : PySem.W.Frag) (G : Addr → Prop) (H : Hp) : List V → List T → Prop
  | nil : DfL K G H [] []
  | cons {v : V} {t : T} {vs : List V} {ts : List T} : Df K G H v t → DfL K G H vs ts → DfL K G H (v :: vs) (t :: ts)
end
theorem rd_alive {H : Hp} {a : Addr} {u : HO} (h : Rd H a u) : H a ≠ none := by
  rcases h with h | ⟨_, h⟩ <;> rw [h] <;> exact fun z => nomatch z
theorem rd_keep {H H' : Hp} {a : Addr} {u : HO} (k : ∀ o, H a = some o → H' a = some o) (h : Rd H a u) : Rd H' a u := by
  rcases h with h | ⟨o, h⟩
  · exact .inl (k _ h)
  · exact .inr ⟨o, k _ h⟩
theorem CellR.alive {K : PySem.W.Frag} {H : Hp} {a : Addr} {t : T} {vs : List V} (h : CellR K H a t vs) : H a ≠ none := by
  unfold CellR at h
  split at h
  · exact rd_alive h
  · rw [h]; exact fun z => nomatch z
  · exact rd_alive h.2
  · exact rd_alive h.2
  · obtain ⟨_, _, h⟩ := h; rw [h]; exact fun z => nomatch z
  · exact h.elim
theorem Cell.r {K : PySem.W.Frag} {H : Hp} {a : Addr} {t : T} {vs : List V} (h : Cell K H a t vs) : CellR K H a t vs := by
  cases t <;> first
    | exact Or.inl h
    | exact ⟨h.1, Or.inl h.2⟩
    | exact h
theorem CellR.keep {K : PySem.W.Frag} {H H' : Hp} {a : Addr} {t : T} {vs : List V} (k : ∀ o, H a = some o → H' a = some o) (h : CellR K H a t vs) : CellR K H' a t vs := by
  unfold CellR at h ⊢
  split at h
  · exact rd_keep k h
  · exact k _ h
  · exact ⟨h.1, rd_keep k h.2⟩
  · exact ⟨h.1, rd_keep k h.2⟩
  · obtain ⟨h0, dx, h⟩ := h; exact ⟨h0, dx, k _ h⟩
  · exact h.elim
theorem Cell.keep {K : PySem.W.Frag} {H H' : Hp} {a : Addr} {t : T} {vs : List V} (k : ∀ o, H a = some o → H' a = some o) (h : Cell K H a t vs) : Cell K H' a t vs := by
  unfold Cell at h ⊢
  split at h
  · exact k _ h
  · exact k _ h
  · exact ⟨h.1, k _ h.2⟩
  · exact ⟨h.1, k _ h.2⟩
  · obtain ⟨h0, dx, h⟩ := h; exact ⟨h0, dx, k _ h⟩
  · exact h.elim
section
variable {K : PySem.W.Frag} {G G' U : Addr → Prop} {H H' : Hp}
mutual
theorem Df.step (e : EdP U H H') (hu : ∀ a, U a → G a ∨ H a = none) (hg : ∀ a, G' a → G a ∨ H a = none) : ∀ {v : V} {t : T}, Df K G H v t → Df K G' H' v t
  | _, _, .sc h => .sc h
  | _, _, .nd n c r => .nd (fun z => (hg _ z).elim n fun q => c.alive q) (c.keep fun o q => e.1 _ _ (fun z => (hu _ z).elim n fun w => c.alive w) q) (DfL.step e hu hg r)
theorem DfL.step (e : EdP U H H') (hu : ∀ a, U a → G a ∨ H a = none) (hg : ∀ a, G' a → G a ∨ H a = none) : ∀ {vs : List V} {ts : List T}, DfL K G H vs ts → DfL K G' H' vs ts
  | _, _, .nil => .nil
  | _, _, .cons h r => .cons (Df.step e hu hg h) (DfL.step e hu hg r)
end
theorem Df.weak {v : V} {t : T} (hg : ∀ a, G' a → G a) (h : Df K G H v t) : Df K G' H v t := h.step (U := noA) .refl (fun _ z => z.elim) fun a z => .inl (hg a z)
theorem DfL.weak {v : List V} {t : List T} (hg : ∀ a, G' a → G a) (h : DfL K G H v t) : DfL K G' H v t := h.step (U := noA) .refl (fun _ z => z.elim) fun a z => .inl (hg a z)
theorem Df.ed0 {v : V} {t : T} (e : EdP noA H H') (h : Df K G H v t) : Df K G H' v t := h.step e (fun _ z => z.elim) fun a z => .inl z
theorem DfL.ed0 {v : List V} {t : List T} (e : EdP noA H H') (h : DfL K G H v t) : DfL K G H' v t := h.step e (fun _ z => z.elim) fun a z => .inl z
theorem DfL.length : ∀ {vs : List V} {ts : List T}, DfL K G H vs ts → vs.length = ts.length
  | _, _, .nil => rfl
  | _, _, .cons _ r => by rw [List.length_cons, List.length_cons, DfL.length r]
theorem DfL.at : ∀ {vs : List V} {ts : List T} {i : Nat} {t : T}, DfL K G H vs ts → ts[i]? = some t → ∃ v, vs[i]? = some v ∧ Df K G H v t
  | _, _, _, _, .nil, e => by simp at e
  | _, _, 0, _, .cons h _, e => by simp at e; subst e; exact ⟨_, rfl, h⟩
  | _, _, i + 1, _, .cons _ r, e => by
    obtain ⟨v, h1, h2⟩ := DfL.at r (i := i) (by simpa using e)
    exact ⟨v, by simpa using h1, h2⟩
theorem DfL.at' : ∀ {vs : List V} {ts : List T} {i : Nat} {v : V}, DfL K G H vs ts → vs[i]? = some v → ∃ t, ts[i]? = some t ∧ Df K G H v t
  | _, _, _, _, .nil, e => by simp at e
  | _, _, 0, _, .cons h _, e => by simp at e; subst e; exact ⟨_, rfl, h⟩
  | _, _, i + 1, _, .cons _ r, e => by
    obtain ⟨v, h1, h2⟩ := DfL.at' r (i := i) (by simpa using e)
    exact ⟨v, by simpa using h1, h2⟩
theorem DfL.app : ∀ {vs ws : List V} {ts us : List T}, DfL K G H vs ts → DfL K G H ws us → DfL K G H (vs ++ ws) (ts ++ us)
  | _, _, _, _, .nil, h => h
  | _, _, _, _, .cons h r, q => .cons h (DfL.app r q)
theorem DfL.drop : ∀ {vs : List V} {ts : List T} (n : Nat), DfL K G H vs ts → DfL K G H (vs.drop n) (ts.drop n)
  | _, _, 0, h => h
  | _, _, _ + 1, .nil => .nil
  | _, _, n + 1, .cons _ r => DfL.drop n r
theorem DfL.take : ∀ {vs : List V} {ts : List T} (n : Nat), DfL K G H vs ts → DfL K G H (vs.take n) (ts.take n)
  | _, _, 0, _ => .nil
  | _, _, _ + 1, .nil => .nil
  | _, _, n + 1, .cons h r => .cons h (DfL.take n r)
theorem DfL.set {v : V} {t : T} (h : Df K G H v t) : ∀ {vs : List V} {ts : List T} (n : Nat), DfL K G H vs ts → DfL K G H (vs.set n v) (ts.set n t)
  | _, _, _, .nil => .nil
  | _, _, 0, .cons _ r => .cons h r
  | _, _, n + 1, .cons q r => .cons q (DfL.set h n r)
theorem DfL.sv : ∀ {ts : List T}, ts.all T.isS = true → DfL K G H (ts.map T.sv) ts
  | [], _ => .nil
  | t :: r, h => by
    rw [List.all_cons, Bool.and_eq_true] at h
    refine .cons (.sc ?_) (DfL.sv h.2)
    cases t <;> first
      | rfl
      | exact ⟨rfl, h.1⟩
      | exact absurd h.1 Bool.false_ne_true
theorem DfL.svs : ∀ {ts : List T} {vs : List V}, DfL K G H vs ts → ts.all T.isS = true → vs = ts.map T.sv
  | [], _, .nil, _ => rfl
  | t :: r, _, .cons h q, z => by
    rw [List.all_cons, Bool.and_eq_true] at z
    rw [DfL.svs q z.2]
    cases h with
    | sc h =>
      cases t <;> first
        | (cases h; rfl)
        | (obtain ⟨rfl, _⟩ := h; rfl)
        | exact absurd z.1 Bool.false_ne_true
    | nd n c _ =>
      cases t <;> first
        | exact absurd z.1 Bool.false_ne_true
        | exact c.elim
end
/-! ### owned trees: all their own places are told, no two alike -/
inductive Sh where
  | fz | all (s : Sh) | flds (d : List (Str × Sh)) | row (ss : List Sh) | opt (s : Sh)
  /-- lent: it is read only, and lies apart from what is one's own -/
  | vw
  /-- a caught exception at a, its field f in d -/
  | xc (a d : Addr) (c f : Str)
def Sh.pln : Sh → Bool
  | .vw => false
  | .xc .. => false
  | _ => true
def Sh.nxc : Sh → Bool
  | .xc .. => false
  | _ => true
def Sh.kids (s : Sh) (t : T) : Option (List Sh) := match s, t with
  | .all s, .lst ts => some (ts.map fun _ => s)
  | .all s, .dic _ ts => some (ts.map fun _ => s)
  | .all s, .dit _ ts => some (ts.map fun _ => s)
  | .flds d, .ins _ fs _ => some (fs.map fun f => (d.lookup f).getD .fz)
  | .row ss, .lst _ => some ss
  | _, _ => none
mutual
inductive Ow (K : PySem.W.Frag) (G : Addr → Prop) (H : Hp) : Sh → List Addr → V → T → Prop
  | fz {v : V} {t : T} : Df K G H v t → Ow K G H .fz [] v t
  | nd {s : Sh} {a : Addr} {F : List Addr} {t : T} {vs : List V} {ss : List Sh} : Cell K H a t vs → s.kids t = some ss → OwL K G H ss F vs t.kids → Ow K G H s (a :: F) (.ref a) t
  | optN {s : Sh} : Ow K G H (.opt s) [] .non .non
  | optS {s : Sh} {F : List Addr} {v : V} {t : T} : Ow K G H s F v t → Ow K G H (.opt s) F v t
inductive OwL (K : PySem.W.Frag) (G : Addr → Prop) (H : Hp) : List Sh → List Addr → List V → List T → Prop
  | nil : OwL K G H [] [] [] []
  | cons {s : Sh} {ss : List Sh} {F F' : List Addr} {v : V} {t : T} {vs : List V} {ts : List T} : Ow K G H s F v t → OwL K G H ss F' vs ts → OwL K G H (s :: ss) (F ++ F') (v :: vs) (t :: ts)
end
section
variable {K : PySem.W.Frag} {G G' U : Addr → Prop} {H H' : Hp}
mutual
theorem Ow.step (e : EdP U H H') (hu : ∀ a, U a → G a ∨ H a = none) (hg : ∀ a, G' a → G a ∨ H a = none) : ∀ {s : Sh} {F : List Addr} {v : V} {t : T}, (∀ a ∈ F, ¬ U a) → Ow K G H s F v t → Ow K G' H' s F v t
  | _, _, _, _, _, .fz h => .fz (h.step e hu hg)
  | _, _, _, _, n, .nd c k r => .nd (c.keep fun o q => e.1 _ _ (n _ (List.mem_cons_self ..)) q) k (OwL.step e hu hg (fun a z => n a (List.mem_cons_of_mem _ z)) r)
  | _, _, _, _, _, .optN => .optN
  | _, _, _, _, n, .optS h => .optS (Ow.step e hu hg n h)
theorem OwL.step (e : EdP U H H') (hu : ∀ a, U a → G a ∨ H a = none) (hg : ∀ a, G' a → G a ∨ H a = none) : ∀ {ss : List Sh} {F : List Addr} {vs : List V} {ts : List T}, (∀ a ∈ F, ¬ U a) → OwL K G H ss F vs ts → OwL K G' H' ss F vs ts
  | _, _, _, _, _, .nil => .nil
  | _, _, _, _, n, .cons h r => .cons (Ow.step e hu hg (fun a z => n a (List.mem_append_left _ z)) h) (OwL.step e hu hg (fun a z => n a (List.mem_append_right _ z)) r)
end
mutual
theorem Ow.alive : ∀ {s : Sh} {F : List Addr} {v : V} {t : T}, Ow K G H s F v t → ∀ a ∈ F, H a ≠ none
  | _, _, _, _, .fz _, _, z => absurd z List.not_mem_nil
  | _, _, _, _, .nd c _ r, b, z => (List.mem_cons.mp z).elim (fun q => by rw [q]; exact c.r.alive) fun q => OwL.alive r b q
  | _, _, _, _, .optN, _, z => absurd z List.not_mem_nil
  | _, _, _, _, .optS h, a, z => Ow.alive h a z
theorem OwL.alive : ∀ {ss : List Sh} {F : List Addr} {vs : List V} {ts : List T}, OwL K G H ss F vs ts → ∀ a ∈ F, H a ≠ none
  | _, _, _, _, .nil, _, z => absurd z List.not_mem_nil
  | _, _, _, _, .cons h r, a, z => (List.mem_append.mp z).elim (fun q => Ow.alive h a q) fun q => OwL.alive r a q
end
theorem Cell.nt {a : Addr} {s : Sh} {t : T} {vs : List V} {ss : List Sh} (h : Cell K H a t vs) (k : s.kids t = some ss) : NT H a := by
  refine ⟨h.r.alive, fun xs z => ?_⟩
  unfold Sh.kids at k
  split at k
  · have h : H a = _ := h
    rw [z] at h; cases h
  · have h : H a = _ := h.2
    rw [z] at h; cases h
  · have h : H a = _ := h.2
    rw [z] at h; cases h
  · obtain ⟨_, dx, h⟩ := h
    rw [z] at h; cases h
  · have h : H a = _ := h
    rw [z] at h; cases h
  · cases k
mutual
theorem Ow.nt : ∀ {s : Sh} {F : List Addr} {v : V} {t : T}, Ow K G H s F v t → ∀ a ∈ F, NT H a
  | _, _, _, _, .fz _, _, z => absurd z List.not_mem_nil
  | _, _, _, _, .nd c k r, b, z => (List.mem_cons.mp z).elim (fun q => by rw [q]; exact c.nt k) fun q => OwL.nt r b q
  | _, _, _, _, .optN, _, z => absurd z List.not_mem_nil
  | _, _, _, _, .optS h, a, z => Ow.nt h a z
theorem OwL.nt : ∀ {ss : List Sh} {F : List Addr} {vs : List V} {ts : List T}, OwL K G H ss F vs ts → ∀ a ∈ F, NT H a
  | _, _, _, _, .nil, _, z => absurd z List.not_mem_nil
  | _, _, _, _, .cons h r, a, z => (List.mem_append.mp z).elim (fun q => Ow.nt h a q) fun q => OwL.nt r a q
end
mutual
theorem Ow.freeze : ∀ {s : Sh} {F : List Addr} {v : V} {t : T}, (∀ a, G' a → G a ∧ a ∉ F) → Ow K G H s F v t → Df K G' H v t
  | _, _, _, _, n, .fz h => h.weak fun a z => (n a z).1
  | _, _, _, _, n, .nd c _ r => .nd (fun z => (n _ z).2 (List.mem_cons_self ..)) c.r (OwL.freeze (fun a z => ⟨(n a z).1, fun q => (n a z).2 (List.mem_cons_of_mem _ q)⟩) r)
  | _, _, _, _, _, .optN => .sc rfl
  | _, _, _, _, n, .optS h => Ow.freeze n h
theorem OwL.freeze : ∀ {ss : List Sh} {F : List Addr} {vs : List V} {ts : List T}, (∀ a, G' a → G a ∧ a ∉ F) → OwL K G H ss F vs ts → DfL K G' H vs ts
  | _, _, _, _, _, .nil => .nil
  | _, _, _, _, n, .cons h r => .cons (Ow.freeze (fun a z => ⟨(n a z).1, fun q => (n a z).2 (List.mem_append_left _ q)⟩) h) (OwL.freeze (fun a z => ⟨(n a z).1, fun q => (n a z).2 (List.mem_append_right _ q)⟩) r)
end
theorem Ow.weak {s : Sh} {F : List Addr} {v : V} {t : T} (hg : ∀ a, G' a → G a) (h : Ow K G H s F v t) : Ow K G' H s F v t := h.step (U := noA) .refl (fun _ z => z.elim) (fun a z => .inl (hg a z)) fun _ _ z => z.elim
theorem Ow.ed0 {s : Sh} {F : List Addr} {v : V} {t : T} (e : EdP noA H H') (h : Ow K G H s F v t) : Ow K G H' s F v t := h.step e (fun _ z => z.elim) (fun a z => .inl z) fun _ _ z => z.elim
theorem Ow.df {F : List Addr} {v : V} {t : T} (h : Ow K G H .fz F v t) : Df K G H v t ∧ F = [] := by
  cases h with
  | fz h => exact ⟨h, rfl⟩
  | nd c k r => simp [Sh.kids] at k
theorem OwL.df : ∀ {ts : List T} {vs : List V} {F : List Addr}, OwL K G H (ts.map fun _ => .fz) F vs ts → DfL K G H vs ts ∧ F = []
  | [], _, _, .nil => ⟨.nil, rfl⟩
  | t :: r, _, _, .cons h q => by
    obtain ⟨h1, rfl⟩ := h.df
    obtain ⟨h2, rfl⟩ := OwL.df q
    exact ⟨.cons h1 h2, rfl⟩
end
/-! ### what a value stands for, wherever it lies -/
mutual
inductive Rp (K : PySem.W.Frag) (H : Hp) : V → T → Prop
  | sc {v : V} {t : T} : Sc K v t → Rp K H v t
  | nd {a : Addr} {t : T} {vs : List V} : CellR K H a t vs → RpL K H vs t.kids → Rp K H (.ref a) t
inductive RpL (K : PySem.W.Frag) (H : Hp) : List V → List T → Prop
  | nil : RpL K H [] []
  | cons {v : V} {t : T} {vs : List V} {ts : List T} : Rp K H v t → RpL K H vs ts → RpL K H (v :: vs) (t :: ts)
end
section
variable {K : PySem.W.Frag} {G : Addr → Prop} {H H' : Hp}
mutual
theorem Df.rp : ∀ {v : V} {t : T}, Df K G H v t → Rp K H v t
  | _, _, .sc h => .sc h
  | _, _, .nd _ c r => .nd c (DfL.rp r)
theorem DfL.rp : ∀ {vs : List V} {ts : List T}, DfL K G H vs ts → RpL K H vs ts
  | _, _, .nil => .nil
  | _, _, .cons h r => .cons (Df.rp h) (DfL.rp r)
end
mutual
theorem Ow.rp : ∀ {s : Sh} {F : List Addr} {v : V} {t : T}, Ow K G H s F v t → Rp K H v t
  | _, _, _, _, .fz h => h.rp
  | _, _, _, _, .nd c _ r => .nd c.r (OwL.rp r)
  | _, _, _, _, .optN => .sc rfl
  | _, _, _, _, .optS h => Ow.rp h
theorem OwL.rp : ∀ {ss : List Sh} {F : List Addr} {vs : List V} {ts : List T}, OwL K G H ss F vs ts → RpL K H vs ts
  | _, _, _, _, .nil => .nil
  | _, _, _, _, .cons h r => .cons (Ow.rp h) (OwL.rp r)
end
theorem RpL.length : ∀ {vs : List V} {ts : List T}, RpL K H vs ts → vs.length = ts.length
  | _, _, .nil => rfl
  | _, _, .cons _ r => by rw [List.length_cons, List.length_cons, RpL.length r]
theorem Rp.isS {v : V} {t : T} (h : Rp K H v t) (z : t.isS = true) : v = t.sv := by
  cases h with
  | sc h =>
    cases t <;> first
      | (cases h; rfl)
      | (obtain ⟨rfl, _⟩ := h; rfl)
      | exact absurd z Bool.false_ne_true
  | nd c _ =>
    cases t <;> first
      | exact absurd z Bool.false_ne_true
      | exact c.elim
theorem Df.isS {v : V} {t : T} (h : Rp K H v t) (z : t.isS = true) : Df K G H v t := by
  cases h with
  | sc h => exact .sc h
  | nd c _ =>
    cases t <;> first
      | exact absurd z Bool.false_ne_true
      | exact c.elim
theorem RpL.svs : ∀ {ts : List T} {vs : List V}, RpL K H vs ts → ts.all T.isS = true → vs = ts.map T.sv
  | [], _, .nil, _ => rfl
  | t :: r, _, .cons h q, z => by
    rw [List.all_cons, Bool.and_eq_true] at z
    rw [RpL.svs q z.2, h.isS z.1]
    rfl
end
/-! ### a view: it may be read; what lies in it is frozen -/
def Vw (K : PySem.W.Frag) (G : Addr → Prop) (H : Hp) (v : V) (t : T) : Prop := Sc K v t ∨ ∃ a vs, v = .ref a ∧ CellR K H a t vs ∧ DfL K G H vs t.kids
theorem Vw.rp {K : PySem.W.Frag} {G : Addr → Prop} {H : Hp} {v : V} {t : T} (h : Vw K G H v t) : Rp K H v t := by
  rcases h with h | ⟨a, vs, rfl, c, r⟩
  · exact .sc h
  · exact .nd c r.rp
theorem Df.vw {K : PySem.W.Frag} {G : Addr → Prop} {H : Hp} {v : V} {t : T} (h : Df K G H v t) : Vw K G H v t := by
  cases h with
  | sc h => exact .inl h
  | nd n c r => exact .inr ⟨_, _, rfl, c, r⟩
/-- shapes whose parts are all frozen -/
def Sh.flat : Sh → Bool
  | .fz => true
  | .all .fz => true
  | .opt (.all .fz) => true
  | .flds d => d.all fun p => match p.2 with | .fz => true | _ => false
  | .row ss => ss.all fun s => match s with | .fz => true | _ => false
  | _ => false
theorem OwL.flat {K : PySem.W.Frag} {G : Addr → Prop} {H : Hp} : ∀ {ss : List Sh} {ts : List T} {vs : List V} {F : List Addr}, (∀ s ∈ ss, s = .fz) → OwL K G H ss F vs ts → DfL K G H vs ts
  | _, _, _, _, _, .nil => .nil
  | _, _, _, _, n, .cons h q => by
    have e := n _ (List.mem_cons_self ..)
    subst e
    exact .cons h.df.1 (OwL.flat (fun s z => n s (List.mem_cons_of_mem _ z)) q)
theorem lookup_mem {α : Type} {d : List (Str × α)} {f : Str} {s : α} (h : d.lookup f = some s) : ∃ p ∈ d, p.2 = s := by
  induction d with
  | nil => simp at h
  | cons p r ih =>
    obtain ⟨a, b⟩ := p
    rw [List.lookup_cons] at h
    split at h
    · cases h; exact ⟨_, List.mem_cons_self .., rfl⟩
    · obtain ⟨q, h1, h2⟩ := ih h
      exact ⟨q, List.mem_cons_of_mem _ h1, h2⟩
theorem Ow.vw {K : PySem.W.Frag} {G : Addr → Prop} {H : Hp} : ∀ {s : Sh} {F : List Addr} {v : V} {t : T}, s.flat = true → Ow K G H s F v t → Vw K G H v t
  | _, _, _, _, _, .fz h => h.vw
  | s, _, _, t, f, .nd c k r => by
    refine .inr ⟨_, _, rfl, c.r, r.flat fun s' hs' => ?_⟩
    unfold Sh.kids at k
    unfold Sh.flat at f
    split at k <;> cases k
    · simp only [List.mem_map] at hs'
      obtain ⟨_, _, rfl⟩ := hs'
      split at f <;> first | rfl | simp_all
    · simp only [List.mem_map] at hs'
      obtain ⟨_, _, rfl⟩ := hs'
      split at f <;> first | rfl | simp_all
    · simp only [List.mem_map] at hs'
      obtain ⟨_, _, rfl⟩ := hs'
      split at f <;> first | rfl | simp_all
    · simp only [List.mem_map] at hs'
      obtain ⟨g, _, rfl⟩ := hs'
      rename_i d _ _ _ _
      simp only [List.all_eq_true] at f
      cases q : d.lookup g with
      | none => rfl
      | some s' =>
        obtain ⟨p, h1, h2⟩ := lookup_mem q
        have := f p h1
        rw [h2] at this
        show s' = .fz
        cases s' <;> simp_all
    · simp only [List.all_eq_true] at f
      have := f s' hs'
      cases s' <;> simp_all
  | _, _, _, _, _, .optN => .inl rfl
  | .opt s, _, _, _, f, .optS h => by
    refine Ow.vw ?_ h
    unfold Sh.flat at f
    split at f <;> first | rfl | simp_all [Sh.flat]
end NQ
namespace NQ
open PySem L2
/-! ### slots as trees; outcomes -/
structure Xn where
  cls : Str
  fld : Str
  val : T
abbrev Dl := List (Option T)
abbrev Rs := Option (Except Xn T × Dl)
def dAt : Dl → Nat → Option T
  | [], _ => none
  | x :: _, 0 => x
  | _ :: r, i + 1 => dAt r i
theorem dAt_set_eq : ∀ {δ : Dl} {i : Nat} {t : Option T} {u : T}, dAt (δ.set i t) i = some u → t = some u
  | [], _, _, _, h => by cases h
  | _ :: _, 0, _, _, h => h
  | _ :: r, i + 1, _, _, h => dAt_set_eq (δ := r) h
theorem dAt_set_ne : ∀ {δ : Dl} {i j : Nat} {t : Option T}, j ≠ i → dAt (δ.set i t) j = dAt δ j
  | [], _, _, _, _ => rfl
  | _ :: _, 0, 0, _, h => absurd rfl h
  | _ :: _, 0, _ + 1, _, _ => rfl
  | _ :: _, _ + 1, 0, _, _ => rfl
  | _ :: r, i + 1, j + 1, _, h => dAt_set_ne (δ := r) fun z => h (by rw [z])
theorem dAt_lt : ∀ {δ : Dl} {i : Nat} {u : T}, dAt δ i = some u → i < δ.length
  | [], _, _, h => by cases h
  | _ :: _, 0, _, _ => Nat.succ_pos _
  | _ :: r, i + 1, _, h => Nat.succ_lt_succ (dAt_lt (δ := r) h)
theorem dAt_set_self : ∀ {δ : Dl} {i : Nat} {t : T}, i < δ.length → dAt (δ.set i (some t)) i = some t
  | [], _, _, h => absurd h (Nat.not_lt_zero _)
  | _ :: _, 0, _, _ => rfl
  | _ :: r, i + 1, _, h => dAt_set_self (δ := r) (Nat.lt_of_succ_lt_succ h)
/-- one's own; with what is held meanwhile; with what others may change -/
def Om (Fm : Nat → List Addr) : Addr → Prop := fun a => ∃ i, a ∈ Fm i
def Gm (X : List Addr) (Fm : Nat → List Addr) : Addr → Prop := fun a => a ∈ X ∨ Om Fm a
def Gw (X : List Addr) (Fm : Nat → List Addr) (W : Addr → Prop) : Addr → Prop := fun a => Gm X Fm a ∨ W a
/-- what a slot of the shape s holds: of one's own, frozen, or lent -/
def Xs (K : PySem.W.Frag) (G : Addr → Prop) (H : Hp) (s : Sh) (F : List Addr) (v : V) (t : T) : Prop := F = [] ∧ ∃ a d c f u, s = .xc a d c f ∧ v = .ref a ∧ ¬ G d ∧ H d = some (.xd [(f, u)]) ∧ Df K G H u t
def Sr (K : PySem.W.Frag) (X : List Addr) (Fm : Nat → List Addr) (W : Addr → Prop) (H : Hp) (s : Sh) (F : List Addr) (v : V) (t : T) : Prop := ((s = .vw ∧ F = [] ∧ Df K (Gm X Fm) H v t) ∨ Xs K (Gw X Fm W) H s F v t) ∨ Ow K (Gw X Fm W) H s F v t
structure Fr (K : PySem.W.Frag) (sh : Nat → Sh) (W : Addr → Prop) (X : List Addr) (Fm : Nat → List Addr) (H : Hp) (σ : L2.St) (δ : Dl) : Prop where
  rel : ∀ i t, dAt δ i = some t → ∃ v, σ[i]? = some (some v) ∧ Sr K X Fm W H (sh i) (Fm i) v t
  un : ∀ i, dAt δ i = none → Fm i = []
  nd : ∀ i, (Fm i).Nodup
  dj : ∀ i j a, i ≠ j → a ∈ Fm i → a ∉ Fm j
  dw : ∀ i a, a ∈ Fm i → ¬ W a
  wl : ∀ a, W a → NT H a
  len : δ.length ≤ σ.length
  xn : X.Nodup
  xd : ∀ i a, a ∈ X → a ∉ Fm i
  xw : ∀ a ∈ X, ¬ W a
  xl : ∀ a ∈ X, NT H a
section
variable {K : PySem.W.Frag} {sh : Nat → Sh} {W W' U : Addr → Prop} {X X' : List Addr} {Fm Fm' : Nat → List Addr} {H H' : Hp} {σ : L2.St} {δ : Dl} {i : Nat} {v : V} {t : T} {s : Sh} {F : List Addr}
theorem Sr.step (e : EdP U H H') (hu : ∀ a, U a → Gm X Fm a ∨ H a = none) (hg : ∀ a, Gw X' Fm' W' a → Gw X Fm W a ∨ H a = none) (hm : ∀ a, Gm X' Fm' a → Gm X Fm a ∨ H a = none) (hf : ∀ a ∈ F, ¬ U a) (h : Sr K X Fm W H s F v t) : Sr K X' Fm' W' H' s F v t := by
  rcases h with (⟨h1, h2, h3⟩ | ⟨h1, a, d, c, f, u, h2, h3, h4, h5, h6⟩) | h
  · exact .inl (.inl ⟨h1, h2, h3.step e hu hm⟩)
  · have ne : ¬ H d = none := by rw [h5]; exact fun z => nomatch z
    refine .inl (.inr ⟨h1, a, d, c, f, u, h2, h3, fun z => (hg d z).elim h4 ne, e.1 _ _ (fun z => (hu d z).elim (fun w => h4 (.inl w)) ne) h5, h6.step e (fun a z => (hu a z).imp .inl id) hg⟩)
  · exact .inr (h.step e (fun a z => (hu a z).imp .inl id) hg hf)
theorem Sr.ed0 (e : EdP noA H H') (h : Sr K X Fm W H s F v t) : Sr K X Fm W H' s F v t := h.step e (fun _ z => z.elim) (fun _ z => .inl z) (fun _ z => .inl z) fun _ _ z => z.elim
theorem Sr.weak (hg : ∀ a, Gw X' Fm' W' a → Gw X Fm W a) (hm : ∀ a, Gm X' Fm' a → Gm X Fm a) (h : Sr K X Fm W H s F v t) : Sr K X' Fm' W' H s F v t := h.step (U := noA) .refl (fun _ z => z.elim) (fun a z => .inl (hg a z)) (fun a z => .inl (hm a z)) fun _ _ z => z.elim
theorem Sr.alive (h : Sr K X Fm W H s F v t) : ∀ a ∈ F, H a ≠ none := by
  rcases h with (⟨_, h2, _⟩ | ⟨h2, _⟩) | h
  · rw [h2]; exact fun _ z => absurd z List.not_mem_nil
  · rw [h2]; exact fun _ z => absurd z List.not_mem_nil
  · exact h.alive
theorem Sr.nt (h : Sr K X Fm W H s F v t) : ∀ a ∈ F, NT H a := by
  rcases h with (⟨_, h2, _⟩ | ⟨h2, _⟩) | h
  · rw [h2]; exact fun _ z => absurd z List.not_mem_nil
  · rw [h2]; exact fun _ z => absurd z List.not_mem_nil
  · exact h.nt
theorem Sr.rp (h : Sr K X Fm W H s F v t) (n : s.nxc = true) : Rp K H v t := by
  rcases h with (⟨_, _, h⟩ | ⟨_, _, _, _, _, _, h, _⟩) | h
  · exact h.rp
  · rw [h] at n; cases n
  · exact h.rp
theorem Sr.fz (h : Sr K X Fm W H .fz F v t) : Df K (Gw X Fm W) H v t ∧ F = [] := by
  rcases h with (⟨h, _⟩ | ⟨_, _, _, _, _, _, h, _⟩) | h
  · cases h
  · cases h
  · exact h.df
theorem Sr.vw (h : Sr K X Fm W H .vw F v t) : Df K (Gm X Fm) H v t ∧ F = [] := by
  rcases h with (⟨_, h1, h2⟩ | ⟨_, _, _, _, _, _, h, _⟩) | h
  · exact ⟨h2, h1⟩
  · cases h
  · cases h with
    | nd c k r => simp [Sh.kids] at k
theorem Sr.xc {a d : Addr} {c f : Str} (h : Sr K X Fm W H (.xc a d c f) F v t) : F = [] ∧ v = .ref a ∧ ∃ u, H d = some (.xd [(f, u)]) ∧ Df K (Gw X Fm W) H u t := by
  rcases h with (⟨h, _⟩ | ⟨h0, _, _, _, _, u, h, h1, _, h2, h3⟩) | h
  · cases h
  · cases h; exact ⟨h0, h1, u, h2, h3⟩
  · cases h with
    | nd c k r => simp [Sh.kids] at k
theorem Sr.own (h : Sr K X Fm W H s F v t) (n : s.pln = true) : Ow K (Gw X Fm W) H s F v t := by
  rcases h with (⟨h, _⟩ | ⟨_, _, _, _, _, _, h, _⟩) | h
  · rw [h] at n; cases n
  · rw [h] at n; cases n
  · exact h
theorem Fr.nto (f : Fr K sh W X Fm H σ δ) : ∀ a, Om Fm a → NT H a := fun a ⟨i, h⟩ => by
  cases e : dAt δ i with
  | none => rw [f.un i e] at h; exact absurd h List.not_mem_nil
  | some t =>
    obtain ⟨v, _, o⟩ := f.rel i t e
    exact o.nt a h
theorem Fr.ntm (f : Fr K sh W X Fm H σ δ) : ∀ a, Gm X Fm a → NT H a := fun a h => h.elim (f.xl a) (f.nto a)
theorem Fr.nt (f : Fr K sh W X Fm H σ δ) : ∀ a, Gw X Fm W a → NT H a := fun a h => h.elim (f.ntm a) (f.wl a)
theorem Fr.al (f : Fr K sh W X Fm H σ δ) : ∀ a, Gw X Fm W a → H a ≠ none := fun a h => (f.nt a h).1
theorem Fr.ed0 (f : Fr K sh W X Fm H σ δ) (e : EdP noA H H') : Fr K sh W X Fm H' σ δ :=
  ⟨fun i t h => by obtain ⟨v, h1, h2⟩ := f.rel i t h; exact ⟨v, h1, h2.ed0 e⟩, f.un, f.nd, f.dj, f.dw, fun a z => e.2.2 a (f.wl a z), f.len, f.xn, f.xd, f.xw, fun a z => e.2.2 a (f.xl a z)⟩
theorem Fr.fz0 (f : Fr K sh W X Fm H σ δ) (h : sh i = .fz) : Fm i = [] := by
  cases e : dAt δ i with
  | none => exact f.un i e
  | some t =>
    obtain ⟨v, _, o⟩ := f.rel i t e
    rw [h] at o
    exact o.fz.2
theorem Fr.var (f : Fr K sh W X Fm H σ δ) (h : sh i = .fz) (e : dAt δ i = some t) : ∃ v, σ[i]? = some (some v) ∧ Df K (Gw X Fm W) H v t := by
  obtain ⟨v, h1, h2⟩ := f.rel i t e
  rw [h] at h2
  exact ⟨v, h1, h2.fz.1⟩
theorem Fr.set (f : Fr K sh W X Fm H σ δ) (h : Fm i = []) (d : Sr K X Fm W H (sh i) [] v t) : Fr K sh W X Fm H (σ.set i (some v)) (δ.set i (some t)) := by
  have l := f.len
  refine ⟨fun j u e => ?_, fun j e => ?_, f.nd, f.dj, f.dw, f.wl, by simpa using l, f.xn, f.xd, f.xw, f.xl⟩
  · by_cases z : j = i
    · subst z
      have e2 := dAt_set_eq e
      cases e2
      have lt : j < δ.length := by simpa using dAt_lt e
      refine ⟨v, by rw [List.getElem?_set_self (by omega)], ?_⟩
      rw [h]
      exact d
    · rw [dAt_set_ne z] at e
      obtain ⟨w, h1, h2⟩ := f.rel j u e
      exact ⟨w, by rw [List.getElem?_set_ne (fun q => z q.symm)]; exact h1, h2⟩
  · by_cases z : j = i
    · subst z
      exact h
    · rw [dAt_set_ne z] at e
      exact f.un j e
/-- a slot is forgotten; what it held is held meanwhile -/
theorem Fr.del (f : Fr K sh W X Fm H σ δ) (i : Nat) (v : Option V) : Fr K sh W (Fm i ++ X) (fun j => if j = i then [] else Fm j) H (σ.set i v) (δ.set i none) := by
  have l := f.len
  have hm : ∀ j a, (a ∈ if j = i then [] else Fm j) → j ≠ i ∧ a ∈ Fm j := fun j a h => by
    by_cases z : j = i
    · rw [if_pos z] at h; exact absurd h List.not_mem_nil
    · rw [if_neg z] at h; exact ⟨z, h⟩
  have hg : ∀ a, Gm (Fm i ++ X) (fun j => if j = i then [] else Fm j) a → Gm X Fm a := fun a h => h.elim (fun q => (List.mem_append.mp q).elim (fun z => .inr ⟨i, z⟩) .inl) fun ⟨j, q⟩ => .inr ⟨j, (hm j a q).2⟩
  have hw : ∀ a, Gw (Fm i ++ X) (fun j => if j = i then [] else Fm j) W a → Gw X Fm W a := fun a h => h.imp (hg a) id
  refine ⟨fun j u e => ?_, fun j e => ?_, fun j => ?_, fun j k a n q q2 => f.dj j k a n (hm j a q).2 (hm k a q2).2, fun j a q => f.dw j a (hm j a q).2, f.wl, by simpa using l, ?_, fun j a q q2 => ?_, fun a q => ?_, fun a q => ?_⟩
  · by_cases z : j = i
    · subst z
      exact absurd (dAt_set_eq e) (by simp)
    · rw [dAt_set_ne z] at e
      obtain ⟨w, h1, h2⟩ := f.rel j u e
      refine ⟨w, by rw [List.getElem?_set_ne (fun q => z q.symm)]; exact h1, ?_⟩
      simp only [if_neg z]
      exact h2.weak hw hg
  · by_cases z : j = i
    · simp only [if_pos z]
    · rw [dAt_set_ne z] at e
      simp only [if_neg z]
      exact f.un j e
  · by_cases z : j = i
    · simp only [if_pos z]; exact List.nodup_nil
    · simp only [if_neg z]; exact f.nd j
  · exact List.nodup_append.mpr ⟨f.nd i, f.xn, fun a h1 b h2 e => f.xd i b h2 (by rw [← e]; exact h1)⟩
  · obtain ⟨z1, z2⟩ := hm j a q2
    rcases List.mem_append.mp q with q | q
    · exact f.dj i j a (fun z => z1 z.symm) q z2
    · exact f.xd j a q z2
  · rcases List.mem_append.mp q with q | q
    · exact f.dw i a q
    · exact f.xw a q
  · rcases List.mem_append.mp q with q | q
    · exact f.nto a ⟨i, q⟩
    · exact f.xl a q
/-- what is held meanwhile is let go -/
theorem Fr.let (f : Fr K sh W (F ++ X) Fm H σ δ) : Fr K sh W X Fm H σ δ := by
  have nx := List.nodup_append.mp f.xn
  have hg : ∀ a, Gm X Fm a → Gm (F ++ X) Fm a := fun a h => h.imp (fun q => List.mem_append_right _ q) id
  exact ⟨fun i t h => by obtain ⟨v, h1, h2⟩ := f.rel i t h; exact ⟨v, h1, h2.weak (fun a z => z.imp (hg a) id) hg⟩, f.un, f.nd, f.dj, f.dw, f.wl, f.len, nx.2.1, fun i a q => f.xd i a (List.mem_append_right _ q), fun a q => f.xw a (List.mem_append_right _ q), fun a q => f.xl a (List.mem_append_right _ q)⟩
end
/-! ### readings -/
section
variable (K : PySem.W.Frag) (sh : Nat → Sh)
def Ke (Wx : WX) (W : Addr → Prop) (X : List Addr) (Fm : Nat → List Addr) (σ : L2.St) (H : Hp) (e : Xn) (δ' : Dl) : Prop :=
  ∀ d v H' Fm', Fr K sh W X Fm' H' σ δ' → Xt (Om Fm) (Om Fm') H H' → (¬ Gw X Fm' W d ∧ H' d = some (.xd [(e.fld, v)])) → Df K (Gw X Fm' W) H' v e.val → Wx (.ref (He.ga K e.cls)) (some d) σ H'
def Kf (Wx : WX) (W : Addr → Prop) (X : List Addr) (Fm : Nat → List Addr) (σ : L2.St) (H : Hp) (r : Rs) (Q : VK) : Prop := match r with
  | none => False
  | some (.ok t, δ') => ∀ x H' Fm', Fr K sh W X Fm' H' σ δ' → Xt (Om Fm) (Om Fm') H H' → Df K (Gw X Fm' W) H' x t → Q x H'
  | some (.error e, δ') => Ke K sh Wx W X Fm σ H e δ'
/-- an expression whose value is frozen data -/
def TF (Wx : WX) (f : Dl → Rs) : TE := fun σ H Q => ∃ W X Fm δ, Fr K sh W X Fm H σ δ ∧ Kf K sh Wx W X Fm σ H (f δ) Q
/-- how a quiet expression's value stands: frozen, lent, its parts frozen, or just so -/
inductive Md where
  | fz | vw | ch | rd
def Rm (X : List Addr) (Fm : Nat → List Addr) (W : Addr → Prop) (H : Hp) (m : Md) (x : V) (t : T) : Prop := match m with
  | .fz => Df K (Gw X Fm W) H x t
  | .vw => Df K (Gm X Fm) H x t
  | .ch => Vw K (Gw X Fm W) H x t
  | .rd => Rp K H x t
/-- a quiet expression: nothing but new things comes of it, and nothing is raised -/
def TQ (m : Md) (f : Dl → Option T) : TE := fun σ H Q => ∃ W X Fm δ t, Fr K sh W X Fm H σ δ ∧ f δ = some t ∧ ∀ x H', EdP noA H H' → Rm K X Fm W H' m x t → Q x H'
end
def qE (f : Dl → Option T) : Dl → Rs := fun δ => match f δ with
  | none => none
  | some t => some (.ok t, δ)
inductive Opd where
  | var (i : Nat) | val (f : Dl → Rs)
def TO (K : PySem.W.Frag) (sh : Nat → Sh) (Wx : WX) : Opd → TE
  | .var i => tVar i
  | .val f => TF K sh Wx f
def TOs (K : PySem.W.Frag) (sh : Nat → Sh) (Wx : WX) : List Opd → TA
  | [] => tNil
  | o :: r => tCons (TO K sh Wx o) (TOs K sh Wx r)
abbrev Rls := Option (Except Xn (List (Nat ⊕ T)) × Dl)
def runs : List Opd → Dl → Rls
  | [], δ => some (.ok [], δ)
  | .var i :: r, δ => match dAt δ i with
    | none => none
    | some _ => match runs r δ with
      | none => none
      | some (.error e, δ') => some (.error e, δ')
      | some (.ok l, δ') => some (.ok (.inl i :: l), δ')
  | .val f :: r, δ => match f δ with
    | none => none
    | some (.error e, δ') => some (.error e, δ')
    | some (.ok t, δ1) => match runs r δ1 with
      | none => none
      | some (.error e, δ') => some (.error e, δ')
      | some (.ok l, δ') => some (.ok (.inr t :: l), δ')
/-- the operands' trees, those of variables as they stand now -/
def res : List (Nat ⊕ T) → Dl → Option (List T)
  | [], _ => some []
  | .inl i :: r, δ => match dAt δ i, res r δ with
    | some t, some ts => some (t :: ts)
    | _, _ => none
  | .inr t :: r, δ => match res r δ with
    | some ts => some (t :: ts)
    | none => none
inductive ArgR (K : PySem.W.Frag) (G : Addr → Prop) (H : Hp) (σ : L2.St) : List (Nat ⊕ T) → List V → Prop
  | nil : ArgR K G H σ [] []
  | var {i : Nat} {x : V} {l : List (Nat ⊕ T)} {xs : List V} : σ[i]? = some (some x) → ArgR K G H σ l xs → ArgR K G H σ (.inl i :: l) (x :: xs)
  | val {t : T} {x : V} {l : List (Nat ⊕ T)} {xs : List V} : Df K G H x t → ArgR K G H σ l xs → ArgR K G H σ (.inr t :: l) (x :: xs)
section
variable {K : PySem.W.Frag} {sh : Nat → Sh} {Wx : WX} {W : Addr → Prop} {X : List Addr} {Fm Fm1 : Nat → List Addr} {H H1 : Hp} {σ : L2.St} {δ : Dl} {r : Rs} {Q : VK}
theorem Xt.gw {X X' : List Addr} {Fm' : Nat → List Addr} {H' : Hp} (x : Xt (Om Fm) (Om Fm') H H') (hx : ∀ a ∈ X', a ∈ X) : ∀ a, Gw X' Fm' W a → Gw X Fm W a ∨ H a = none := fun a z => z.elim (fun q => q.elim (fun w => .inl (.inl (.inl (hx a w)))) fun w => (x.2 a w).imp (fun y => .inl (.inr y)) id) fun q => .inl (.inr q)
theorem Df.xt {Fm' : Nat → List Addr} {H' : Hp} {v : V} {t : T} (x : Xt (Om Fm) (Om Fm') H H') (h : Df K (Gw X Fm W) H v t) : Df K (Gw X Fm' W) H' v t :=
  h.step x.1 (fun a z => .inl (.inl (.inr z))) (x.gw fun _ z => z)
theorem ArgR.xt {Fm' : Nat → List Addr} {H' : Hp} (x : Xt (Om Fm) (Om Fm') H H') : ∀ {l : List (Nat ⊕ T)} {xs : List V}, ArgR K (Gw X Fm W) H σ l xs → ArgR K (Gw X Fm' W) H' σ l xs
  | _, _, .nil => .nil
  | _, _, .var h r => .var h (ArgR.xt x r)
  | _, _, .val h r => .val (h.xt x) (ArgR.xt x r)
end
/-! ### operations -/
inductive VwL (K : PySem.W.Frag) (G : Addr → Prop) (H : Hp) : List V → List T → Prop
  | nil : VwL K G H [] []
  | cons {v : V} {t : T} {vs : List V} {ts : List T} : Vw K G H v t → VwL K G H vs ts → VwL K G H (v :: vs) (t :: ts)
def opn (op : List T → Option T) (os : List Opd) : Dl → Rs := fun δ => match runs os δ with
  | none => none
  | some (.error e, δ') => some (.error e, δ')
  | some (.ok l, δ') => match res l δ' with
    | none => none
    | some ts => match op ts with
      | none => none
      | some c => some (.ok c, δ')
/-- a rule over values does what op does over trees -/
def DOp (K : PySem.W.Frag) (r : List V → Hp → VK → Prop) (op : List T → Option T) : Prop := ∀ (G : Addr → Prop) (H : Hp) (xs : List V) (ts : List T) (c : T) (Q : VK), VwL K G H xs ts → op ts = some c → (∀ a, G a → H a ≠ none) →
  (∀ z H', EdP noA H H' → Df K G H' z c → Q z H') → r xs H Q
/-- .. and makes a new list, dict or object -/
def DNew (K : PySem.W.Frag) (r : List V → Hp → VK → Prop) (op : List T → Option T) : Prop := ∀ (G : Addr → Prop) (H : Hp) (xs : List V) (ts : List T) (c : T) (Q : VK), VwL K G H xs ts → op ts = some c → (∀ a, G a → H a ≠ none) →
  (∀ p vs H', H p = none → EdP noA H H' → Cell K H' p c vs → DfL K (fun a => a = p ∨ G a) H' vs c.kids → Q (.ref p) H') → r xs H Q
theorem DNew.op {K : PySem.W.Frag} {r : List V → Hp → VK → Prop} {op : List T → Option T} (h : DNew K r op) : DOp K r op := fun G H xs ts c Q v e al q =>
  h G H xs ts c Q v e al fun p vs H' hp ed ce df => q _ _ ed (.nd (fun z => al p z hp) ce.r (df.weak fun a z => .inr z))
def inls : List (Nat ⊕ T) → List Nat
  | [] => []
  | .inl i :: r => i :: inls r
  | .inr _ :: r => inls r
section
variable {K : PySem.W.Frag} {sh : Nat → Sh} {Wx : WX} {W : Addr → Prop} {X : List Addr} {Fm Fm1 : Nat → List Addr} {H H1 : Hp} {σ : L2.St} {δ : Dl} {r : Rs} {Q : VK}
theorem flat_pln {s : Sh} (h : s.flat = true) : s.pln = true := by cases s <;> first | rfl | cases h
theorem ArgR.vw (f : Fr K sh W X Fm H σ δ) : ∀ {l : List (Nat ⊕ T)} {xs : List V} {ts : List T}, ArgR K (Gw X Fm W) H σ l xs → (∀ i ∈ inls l, (sh i).flat = true) → res l δ = some ts → VwL K (Gw X Fm W) H xs ts
  | _, _, _, .nil, _, e => by cases e; exact .nil
  | _, _, ts, .var (i := i) hv r, hf, e => by
    unfold res at e
    split at e
    · rename_i t ts' q1 q2
      cases e
      obtain ⟨v, h1, h2⟩ := f.rel i t q1
      rw [hv] at h1
      cases h1
      exact .cons ((h2.own (flat_pln (hf i (List.mem_cons_self ..)))).vw (hf i (List.mem_cons_self ..))) (ArgR.vw f r (fun j z => hf j (List.mem_cons_of_mem _ z)) q2)
    · cases e
  | _, _, ts, .val h r, hf, e => by
    unfold res at e
    split at e
    · rename_i ts' q
      cases e
      exact .cons h.vw (ArgR.vw f r hf q)
    · cases e
end
end NQ
namespace NQ
open PySem L2
/-! ### expressions by their operands -/
def tAll : List TE → TA
  | [] => tNil
  | t :: r => tCons t (tAll r)
inductive PEs (X : Cx) : List Expr → List TE → Prop
  | nil : PEs X [] []
  | cons {e : Expr} {es : List Expr} {t : TE} {ts : List TE} : PE X e t → PEs X es ts → starEach (e :: es) X.env = (false, eval e X.env) :: starEach es X.env → PEs X (e :: es) (t :: ts)
theorem PEs.c {X : Cx} {e : Expr} {es : List Expr} {t : TE} {ts : List TE} (h : PE X e t) (r : PEs X es ts) (hs : starEach (e :: es) X.env = (false, eval e X.env) :: starEach es X.env := by rfl) : PEs X (e :: es) (t :: ts) := .cons h r hs
theorem PEs.pa {X : Cx} : ∀ {es : List Expr} {ts : List TE}, PEs X es ts → PA X es (tAll ts)
  | _, _, .nil => pa_nil
  | _, _, .cons h r s => pa_cons h (PEs.pa r) s
abbrev RV := List V → Hp → VK → Prop
/-- e makes its operands from the left, then does what r tells -/
def Con (X : Cx) (e : Expr) (es : List Expr) (r : RV) : Prop := ∀ ts, PEs X es ts → PE X e fun σ H Q => tAll ts σ H fun xs H' => r xs H' Q
def ConT (X : Cx) (e : Expr) (es : List Expr) (r : RV) : Prop := ∀ ts, PEs X es ts → PT X e fun σ H Q => tAll ts σ H fun xs H' => r xs H' fun x H'' => ∃ k, x = .bl k ∧ Q k H''
def r1 (r : V → Hp → VK → Prop) : RV := fun xs H Q => match xs with
  | [x] => r x H Q
  | _ => False
def r2 (r : R2) : RV := fun xs H Q => match xs with
  | [x, y] => r x y H Q
  | _ => False
section
variable {X : Cx} {a b : Expr} {pos : Pos} {r : R2}
end
/-! ### what rules do over trees -/
/-- operands by what they stand for alone; the outcome lies apart from all that was -/
def DRd (K : PySem.W.Frag) (r : RV) (op : List T → Option T) : Prop := ∀ (H : Hp) (xs : List V) (ts : List T) (c : T) (Q : VK), RpL K H xs ts → op ts = some c →
  (∀ z H', EdP noA H H' → (∀ G : Addr → Prop, (∀ a, G a → H a ≠ none) → Df K G H' z c) → Q z H') → r xs H Q
theorem VwL.rp {K : PySem.W.Frag} {G : Addr → Prop} {H : Hp} : ∀ {vs : List V} {ts : List T}, VwL K G H vs ts → RpL K H vs ts
  | _, _, .nil => .nil
  | _, _, .cons h r => .cons h.rp (VwL.rp r)
theorem DRd.op {K : PySem.W.Frag} {r : RV} {op : List T → Option T} (h : DRd K r op) : DOp K r op := fun G H xs ts c Q v e al q => h H xs ts c Q v.rp e fun z H' ed d => q z H' ed (d G al)
abbrev Op := List T → Option T
def altT (f g : Op) : Op := fun ts => match f ts with
  | some c => some c
  | none => g ts
inductive CoR (X : Cx) (K : PySem.W.Frag) (e : Expr) (es : List Expr) : Op → Prop
  | one {r : RV} {op : Op} : Con X e es r → DRd K r op → CoR X K e es op
  | alt {f g : Op} : CoR X K e es f → CoR X K e es g → CoR X K e es (altT f g)
inductive Co (X : Cx) (K : PySem.W.Frag) (e : Expr) (es : List Expr) : Op → Prop
  | one {r : RV} {op : Op} : Con X e es r → DOp K r op → Co X K e es op
  | alt {f g : Op} : Co X K e es f → Co X K e es g → Co X K e es (altT f g)
inductive CoRT (X : Cx) (K : PySem.W.Frag) (e : Expr) (es : List Expr) : Op → Prop
  | one {r : RV} {op : Op} : ConT X e es r → DRd K r op → (∀ ts c, op ts = some c → ∃ b, c = .bl b) → CoRT X K e es op
  | alt {f g : Op} : CoRT X K e es f → CoRT X K e es g → CoRT X K e es (altT f g)
/-- new lists, dicts -/
inductive CoN (X : Cx) (K : PySem.W.Frag) (e : Expr) (es : List Expr) : Op → Prop
  | one {r : RV} {op : Op} : Con X e es r → DNew K r op → (∀ ts c, op ts = some c → (Sh.all .fz).kids c = some (c.kids.map fun _ => .fz)) → CoN X K e es op
  | alt {f g : Op} : CoN X K e es f → CoN X K e es g → CoN X K e es (altT f g)
/-! ### quiet operands -/
abbrev Qf := Dl → Option T
def evq : List Qf → Dl → Option (List T)
  | [], _ => some []
  | f :: r, δ => match f δ with
    | none => none
    | some t => match evq r δ with
      | none => none
      | some ts => some (t :: ts)
def opq (op : Op) (fs : List Qf) : Qf := fun δ => match evq fs δ with
  | none => none
  | some ts => op ts
inductive RmL (K : PySem.W.Frag) (X : List Addr) (Fm : Nat → List Addr) (W : Addr → Prop) (H : Hp) : List Md → List V → List T → Prop
  | nil : RmL K X Fm W H [] [] []
  | cons {m : Md} {ms : List Md} {v : V} {t : T} {vs : List V} {ts : List T} : Rm K X Fm W H m v t → RmL K X Fm W H ms vs ts → RmL K X Fm W H (m :: ms) (v :: vs) (t :: ts)
section
variable {K : PySem.W.Frag} {sh : Nat → Sh} {Wx : WX} {W : Addr → Prop} {X : List Addr} {Fm Fm1 : Nat → List Addr} {H H' H1 : Hp} {σ : L2.St} {δ : Dl} {Q : VK}
mutual
theorem Rp.ed0 (e : EdP noA H H') : ∀ {v : V} {t : T}, Rp K H v t → Rp K H' v t
  | _, _, .sc h => .sc h
  | _, _, .nd c r => .nd (c.keep fun o q => e.1 _ _ (fun z => z) q) (RpL.ed0 e r)
theorem RpL.ed0 (e : EdP noA H H') : ∀ {vs : List V} {ts : List T}, RpL K H vs ts → RpL K H' vs ts
  | _, _, .nil => .nil
  | _, _, .cons h r => .cons (Rp.ed0 e h) (RpL.ed0 e r)
end
theorem Vw.ed0 {G : Addr → Prop} {v : V} {t : T} (e : EdP noA H H') (h : Vw K G H v t) : Vw K G H' v t := by
  rcases h with h | ⟨a, vs, h1, h2, h3⟩
  · exact .inl h
  · exact .inr ⟨a, vs, h1, h2.keep fun o q => e.1 _ _ (fun z => z) q, h3.ed0 e⟩
theorem Rm.ed0 {m : Md} {v : V} {t : T} (e : EdP noA H H') (h : Rm K X Fm W H m v t) : Rm K X Fm W H' m v t := by
  cases m with
  | fz => exact Df.ed0 e h
  | vw => exact Df.ed0 e h
  | ch => exact Vw.ed0 e h
  | rd => exact Rp.ed0 e h
theorem Rm.rp {m : Md} {v : V} {t : T} (h : Rm K X Fm W H m v t) : Rp K H v t := by
  cases m with
  | fz => exact Df.rp h
  | vw => exact Df.rp h
  | ch => exact Vw.rp h
  | rd => exact h
theorem RmL.rp : ∀ {ms : List Md} {vs : List V} {ts : List T}, RmL K X Fm W H ms vs ts → RpL K H vs ts
  | _, _, _, .nil => .nil
  | _, _, _, .cons h r => .cons h.rp (RmL.rp r)
def chL (ms : List Md) : Bool := ms.all fun m => match m with | .fz => true | .ch => true | _ => false
def vwL (ms : List Md) : Bool := ms.all fun m => match m with | .fz => true | .vw => true | _ => false
theorem RmL.ch : ∀ {ms : List Md} {vs : List V} {ts : List T}, chL ms = true → RmL K X Fm W H ms vs ts → VwL K (Gw X Fm W) H vs ts
  | _, _, _, _, .nil => .nil
  | m :: ms, _, _, z, .cons h r => by
    unfold chL at z
    rw [List.all_cons, Bool.and_eq_true] at z
    refine .cons ?_ (RmL.ch z.2 r)
    cases m with
    | fz => exact Df.vw h
    | ch => exact h
    | vw => exact absurd z.1 Bool.false_ne_true
    | rd => exact absurd z.1 Bool.false_ne_true
theorem RmL.vw : ∀ {ms : List Md} {vs : List V} {ts : List T}, vwL ms = true → RmL K X Fm W H ms vs ts → VwL K (Gm X Fm) H vs ts
  | _, _, _, _, .nil => .nil
  | m :: ms, _, _, z, .cons h r => by
    unfold vwL at z
    rw [List.all_cons, Bool.and_eq_true] at z
    refine .cons ?_ (RmL.vw z.2 r)
    cases m with
    | fz => exact Df.vw (Df.weak (fun a q => .inl q) h)
    | vw => exact Df.vw h
    | ch => exact absurd z.1 Bool.false_ne_true
    | rd => exact absurd z.1 Bool.false_ne_true
theorem RmL.ed0 (e : EdP noA H H') : ∀ {ms : List Md} {vs : List V} {ts : List T}, RmL K X Fm W H ms vs ts → RmL K X Fm W H' ms vs ts
  | _, _, _, .nil => .nil
  | _, _, _, .cons h r => .cons (h.ed0 e) (RmL.ed0 e r)
end
section
variable {X : Cx} {K : PySem.W.Frag} {sh : Nat → Sh} {Wx : WX} {e : Expr} {es : List Expr} {op : Op} {l : List (Md × Qf)} {os : List Opd}
/-! ### slots, written things, coercions -/
end
end NQ
namespace NQ
open PySem L2
/-! ### operands that are stored: lists, tuples written out -/
section
variable {K : PySem.W.Frag} {sh : Nat → Sh} {Wx : WX} {W : Addr → Prop} {X : List Addr} {Fm Fm1 : Nat → List Addr} {H H' H1 : Hp} {σ : L2.St} {δ : Dl} {Q : VK}
theorem RmL.df : ∀ {ms : List Md} {vs : List V} {ts : List T}, (ms.all fun m => match m with | .fz => true | _ => false) = true → RmL K X Fm W H ms vs ts → DfL K (Gw X Fm W) H vs ts
  | _, _, _, _, .nil => .nil
  | m :: ms, _, _, z, .cons h r => by
    rw [List.all_cons, Bool.and_eq_true] at z
    refine .cons ?_ (RmL.df z.2 r)
    cases m with
    | fz => exact h
    | ch => exact absurd z.1 Bool.false_ne_true
    | vw => exact absurd z.1 Bool.false_ne_true
    | rd => exact absurd z.1 Bool.false_ne_true
theorem RmL.dv : ∀ {ms : List Md} {vs : List V} {ts : List T}, vwL ms = true → RmL K X Fm W H ms vs ts → DfL K (Gm X Fm) H vs ts
  | _, _, _, _, .nil => .nil
  | m :: ms, _, _, z, .cons h r => by
    unfold vwL at z
    rw [List.all_cons, Bool.and_eq_true] at z
    refine .cons ?_ (RmL.dv z.2 r)
    cases m with
    | fz => exact Df.weak (fun a q => .inl q) h
    | vw => exact h
    | ch => exact absurd z.1 Bool.false_ne_true
    | rd => exact absurd z.1 Bool.false_ne_true
theorem ArgR.df : ∀ {l : List (Nat ⊕ T)} {xs : List V} {ts : List T}, ArgR K (Gw X Fm W) H σ l xs → inls l = [] → res l δ = some ts → DfL K (Gw X Fm W) H xs ts
  | _, _, _, .nil, _, e => by cases e; exact .nil
  | _, _, ts, .var (i := i) hv r, hf, e => by cases hf
  | _, _, ts, .val h r, hf, e => by
    unfold res at e
    split at e
    · rename_i ts' q
      cases e
      exact .cons h (ArgR.df r hf q)
    · cases e
end
section
variable {X : Cx} {K : PySem.W.Frag} {sh : Nat → Sh} {Wx : WX} {e : Expr} {es : List Expr} {op : Op} {l : List (Md × Qf)} {os : List Opd} {rr : RV}
def lstT : Op := fun ts => if ts.length ≤ sizeLine then some (.lst ts) else none
def tupT : Op := fun ts => if ts.length ≤ sizeLine then some (.tup ts) else none
end
end NQ
namespace NQ
open PySem L2
/-! ### signs that are signs -/
theorem sok_iff {s : Str} : PyData.strOk s = true ↔ ∀ c ∈ s.cps.toList, c < 0x110000 := by
  unfold PyData.strOk
  rw [← Array.all_toList, List.all_eq_true]
  simp
theorem sok_app {a b : Str} (h1 : PyData.strOk a = true) (h2 : PyData.strOk b = true) : PyData.strOk (a ++ b) = true := sok_iff.mpr fun c hc => by
  have e : (a ++ b).cps.toList = a.cps.toList ++ b.cps.toList := by
    show (a.cps ++ b.cps).toList = _
    rw [Array.toList_append]
  rw [e] at hc
  exact (List.mem_append.mp hc).elim (sok_iff.mp h1 c) (sok_iff.mp h2 c)
theorem sok_of (s : String) : PyData.strOk (Str.ofString s) = true := sok_iff.mpr fun c hc => by
  rw [Str.ofString_eq_toList] at hc
  simp only [List.mem_map] at hc
  obtain ⟨d, _, rfl⟩ := hc
  have := d.valid
  show d.val.toNat < 0x110000
  rcases this with h | h
  · exact Nat.lt_trans h (by decide)
  · exact h.2
theorem sok_empty : PyData.strOk Str.empty = true := by decide +kernel
/-! ### what scalars are -/
section
variable {K : PySem.W.Frag} {H : Hp} {x : V} {i : Int} {s : Str} {b : Bool}
theorem Rp.int (h : Rp K H x (.int i)) : x = .int i := h.isS rfl
theorem Rp.bl (h : Rp K H x (.bl b)) : x = .bl b := h.isS rfl
theorem Rp.non (h : Rp K H x .non) : x = .non := h.isS rfl
theorem Rp.str (h : Rp K H x (.str s)) : x = .str s ∧ PyData.strOk s = true := by
  cases h with
  | sc h => exact h
  | nd c _ => exact c.elim
theorem Rp.ty {n : String} (h : Rp K H x (.ty n)) : x = .ty n := by
  cases h with
  | sc h => exact h
  | nd c _ => exact c.elim
theorem Rp.gl {n : Str} (h : Rp K H x (.gl n)) : x = .ref (He.ga K n) := by
  cases h with
  | sc h => exact h
  | nd c _ => exact c.elim
theorem Rp.lst {ts : List T} (h : Rp K H x (.lst ts)) : ∃ a vs, x = .ref a ∧ SqL K H a vs ∧ RpL K H vs ts := by
  cases h with
  | sc h => exact h.elim
  | nd c r => exact ⟨_, _, rfl, .inl c, r⟩
theorem RpL.sv : ∀ {ts : List T}, ts.all T.isS = true → RpL K H (ts.map T.sv) ts := fun h => (DfL.sv (G := noA) h).rp
theorem Rp.tup {ts : List T} (h : Rp K H x (.tup ts)) : ∃ a vs, x = .ref a ∧ SqT K H a vs ∧ RpL K H vs ts := by
  cases h with
  | sc h => exact h.elim
  | nd c r => exact ⟨_, _, rfl, SqT.of c, r⟩
theorem Rp.ctup {ts : List T} (h : Rp K H x (.ctup ts)) : ∃ a vs, x = .ref a ∧ SqT K H a vs ∧ RpL K H vs ts ∧ ts.all T.isS = true := by
  cases h with
  | sc h =>
    obtain ⟨a, e, h, z⟩ := h
    exact ⟨a, _, e, h H, RpL.sv z, z⟩
  | nd c r => exact c.elim
theorem Rp.clst {ts : List T} (h : Rp K H x (.clst ts)) : ∃ a vs, x = .ref a ∧ SqL K H a vs ∧ RpL K H vs ts ∧ ts.all T.isS = true := by
  cases h with
  | sc h =>
    obtain ⟨a, e, h, z⟩ := h
    exact ⟨a, _, e, h H, RpL.sv z, z⟩
  | nd c r => exact c.elim
theorem Rp.dic {ks : List Key} {ts : List T} (h : Rp K H x (.dic ks ts)) : ∃ a vs, x = .ref a ∧ ks.length = vs.length ∧ Rd H a (.dK (ks.zip vs)) ∧ RpL K H vs ts := by
  cases h with
  | sc h => exact h.elim
  | nd c r => exact ⟨_, _, rfl, c.1, c.2, r⟩
theorem Rp.dit {ks : List (List Key)} {ts : List T} (h : Rp K H x (.dit ks ts)) : ∃ a vs, x = .ref a ∧ ks.length = vs.length ∧ Rd H a (.dT (ks.zip vs)) ∧ RpL K H vs ts := by
  cases h with
  | sc h => exact h.elim
  | nd c r => exact ⟨_, _, rfl, c.1, c.2, r⟩
theorem RpL.one {t : T} {xs : List V} (h : RpL K H xs [t]) : ∃ x, xs = [x] ∧ Rp K H x t := by
  cases h with
  | cons h r => cases r; exact ⟨_, rfl, h⟩
theorem RpL.two {t u : T} {xs : List V} (h : RpL K H xs [t, u]) : ∃ x y, xs = [x, y] ∧ Rp K H x t ∧ Rp K H y u := by
  cases h with
  | cons h r =>
    obtain ⟨y, rfl, h2⟩ := r.one
    exact ⟨_, _, rfl, h, h2⟩
theorem RpL.at : ∀ {vs : List V} {ts : List T} {i : Nat} {t : T}, RpL K H vs ts → ts[i]? = some t → ∃ v, vs[i]? = some v ∧ Rp K H v t
  | _, _, _, _, .nil, e => by simp at e
  | _, _, 0, _, .cons h _, e => by simp at e; subst e; exact ⟨_, rfl, h⟩
  | _, _, i + 1, _, .cons _ r, e => by
    obtain ⟨v, h1, h2⟩ := RpL.at r (i := i) (by simpa using e)
    exact ⟨v, by simpa using h1, h2⟩
end
theorem VwL.one {K : PySem.W.Frag} {G : Addr → Prop} {H : Hp} {t : T} {xs : List V} (h : VwL K G H xs [t]) : ∃ x, xs = [x] ∧ Vw K G H x t := by
  cases h with
  | cons h r => cases r; exact ⟨_, rfl, h⟩
theorem VwL.two {K : PySem.W.Frag} {G : Addr → Prop} {H : Hp} {t u : T} {xs : List V} (h : VwL K G H xs [t, u]) : ∃ x y, xs = [x, y] ∧ Vw K G H x t ∧ Vw K G H y u := by
  cases h with
  | cons h r =>
    obtain ⟨y, rfl, h2⟩ := r.one
    exact ⟨_, _, rfl, h, h2⟩
theorem Vw.lst {K : PySem.W.Frag} {G : Addr → Prop} {H : Hp} {x : V} {ts : List T} (h : Vw K G H x (.lst ts)) : ∃ a vs, x = .ref a ∧ Rd H a (.lst vs) ∧ DfL K G H vs ts := by
  rcases h with h | ⟨a, vs, rfl, c, r⟩
  · exact h.elim
  · exact ⟨a, vs, rfl, c, r⟩
theorem Vw.tup {K : PySem.W.Frag} {G : Addr → Prop} {H : Hp} {x : V} {ts : List T} (h : Vw K G H x (.tup ts)) : ∃ a vs, x = .ref a ∧ H a = some (.tup vs) ∧ DfL K G H vs ts := by
  rcases h with h | ⟨a, vs, rfl, c, r⟩
  · exact h.elim
  · exact ⟨a, vs, rfl, c, r⟩
/-! ### numbers and texts -/
def addR : Op
  | [.int i, .int j] => some (.int (i + j))
  | [.str a, .str b] => if a.length + b.length ≤ sizeLine then some (.str (a ++ b)) else none
  | _ => none
def subT : Op
  | [.int i, .int j] => some (.int (i - j))
  | _ => none
def mulR : Op
  | [.int i, .int j] => if (-(2 ^ 64) < i ∧ i < 2 ^ 64) ∨ (-(2 ^ 64) < j ∧ j < 2 ^ 64) ∨ i.natAbs.log2 + j.natAbs.log2 < 1000000 then some (.int (i * j)) else none
  | [.str a, .int n] => if -(2 ^ 20) < n ∧ n < 2 ^ 20 ∧ a.length * n.toNat ≤ 1000000 then some (.str (Txt.mul a n)) else none
  | _ => none
def modT : Op
  | [.int i, .int j] => if 0 < j then some (.int (i % j)) else none
  | _ => none
def divT : Op
  | [.int i, .int j] => if 0 < j ∧ j.natAbs.log2 < 9000 then some (.int (i / j)) else none
  | _ => none
def powT : Op
  | [.int i, .int j] => if 0 ≤ j ∧ j ≤ 1000000 ∧ i.natAbs < 2 ^ 64 then some (.int (i ^ j.toNat)) else none
  | _ => none
def cmpT (f : Int → Int → Bool) : Op
  | [.int i, .int j] => some (.bl (f i j))
  | _ => none
def negT : Op
  | [.int i] => some (.int (-i))
  | _ => none
section
variable {K : PySem.W.Frag}
/-! ### == and != -/
mutual
def T.pd : T → Option PyData
  | .non => some .none
  | .bl b => some (.bool b)
  | .int i => some (.int i)
  | .str s => some (.str s)
  | .lst ts => match pdL ts with | some ds => some (.list ds) | none => none
  | .tup ts => match pdL ts with | some ds => some (.tuple ds) | none => none
  | .ctup ts => match pdL ts with | some ds => some (.tuple ds) | none => none
  | .dic _ _ => none | .dit _ _ => none | .ins _ _ _ => none | .gl _ => none | .ty _ => none | .clst _ => none
def pdL : List T → Option (List PyData)
  | [] => some []
  | t :: r => match t.pd, pdL r with
    | some d, some ds => some (d :: ds)
    | _, _ => none
end
end
mutual
theorem Rp.dp {K : PySem.W.Frag} {H : Hp} : ∀ {t : T} {x : V} {d : PyData}, Rp K H x t → t.pd = some d → Dp K H x d ∧ d.canLay0 = true
  | .non, _, _, h, e => by cases e; cases h.non; exact ⟨.non, by simp [PyData.canLay0]⟩
  | .bl b, _, _, h, e => by cases e; cases h.bl; exact ⟨.bl b, by simp [PyData.canLay0]⟩
  | .int i, _, _, h, e => by cases e; cases h.int; exact ⟨.int i, by simp [PyData.canLay0]⟩
  | .str s, _, _, h, e => by
    cases e
    obtain ⟨rfl, s1⟩ := h.str
    exact ⟨.str s, by simp [PyData.canLay0, s1]⟩
  | .lst ts, _, _, h, e => by
    unfold T.pd at e
    cases q : pdL ts with
    | none => rw [q] at e; cases e
    | some ds =>
      rw [q] at e
      cases e
      obtain ⟨a, vs, rfl, h1, h2⟩ := h.lst
      obtain ⟨k1, k2⟩ := RpL.dp h2 q
      exact ⟨.lst h1 k1, by simp only [PyData.canLay0, k2]⟩
  | .tup ts, _, _, h, e => by
    unfold T.pd at e
    cases q : pdL ts with
    | none => rw [q] at e; cases e
    | some ds =>
      rw [q] at e
      cases e
      obtain ⟨a, vs, rfl, h1, h2⟩ := h.tup
      obtain ⟨k1, k2⟩ := RpL.dp h2 q
      exact ⟨.tup h1 k1, by simp only [PyData.canLay0, k2]⟩
  | .ctup ts, _, _, h, e => by
    unfold T.pd at e
    cases q : pdL ts with
    | none => rw [q] at e; cases e
    | some ds =>
      rw [q] at e
      cases e
      obtain ⟨a, vs, rfl, h1, h2, _⟩ := h.ctup
      obtain ⟨k1, k2⟩ := RpL.dp h2 q
      exact ⟨.tup h1 k1, by simp only [PyData.canLay0, k2]⟩
  | .dic _ _, _, _, _, e => by cases e
  | .dit _ _, _, _, _, e => by cases e
  | .ins _ _ _, _, _, _, e => by cases e
  | .gl _, _, _, _, e => by cases e
  | .ty _, _, _, _, e => by cases e
theorem RpL.dp {K : PySem.W.Frag} {H : Hp} : ∀ {ts : List T} {xs : List V} {ds : List PyData}, RpL K H xs ts → pdL ts = some ds → DpAll K H xs ds ∧ PyData.canLayAll0 ds = true
  | [], _, _, h, e => by cases e; cases h; exact ⟨.nil, by simp [PyData.canLayAll0]⟩
  | t :: r, _, _, h, e => by
    unfold pdL at e
    cases h with
    | cons h1 h2 =>
      split at e
      · rename_i d ds q1 q2
        cases e
        obtain ⟨k1, k2⟩ := Rp.dp h1 q1
        obtain ⟨k3, k4⟩ := RpL.dp h2 q2
        exact ⟨.cons k1 k3, by simp [PyData.canLayAll0, k2, k4]⟩
      · cases e
end
/-- == over trees -/
def eqB (a b : T) : Option Bool := match a.pd, b.pd with
  | some d, some e => if d.depth ≤ 60 ∧ e.depth ≤ 60 then some (PyData.eqv d e) else none
  | _, _ => none
def eqT : Op
  | [a, b] => match eqB a b with | some b => some (.bl b) | none => none
  | _ => none
def neT : Op
  | [a, b] => match eqB a b with | some b => some (.bl (!b)) | none => none
  | _ => none
section
variable {K : PySem.W.Frag}
/-! ### is None -/
def T.isN : T → Bool
  | .non => true
  | _ => false
def isNT : Op
  | [a, .non] => some (.bl a.isN)
  | _ => none
def notNT : Op
  | [a, .non] => some (.bl (!a.isN))
  | _ => none
theorem Rp.isN {H : Hp} {x : V} {t : T} (h : Rp K H x t) : decide (x = .non) = t.isN := by
  cases h with
  | sc h =>
    cases t <;> first
      | (cases h; rfl)
      | (obtain ⟨rfl, _⟩ := h; rfl)
      | exact h.elim
      | (obtain ⟨_, rfl, _⟩ := h; rfl)
  | nd c _ => cases t <;> first
      | rfl
      | exact c.elim
/-! ### in -/
def inS (t : T) (ts : List T) : Bool := inV t.sv (ts.map T.sv)
/-- is it in: a list, a tuple, a text -/
def memB (x c : T) : Option Bool := match c with
  | .lst ts => if x.isS = true ∧ ts.all T.isS = true then some (inS x ts) else none
  | .tup ts => if x.isS = true ∧ ts.all T.isS = true then some (inS x ts) else none
  | .ctup ts => if x.isS = true then some (inS x ts) else none
  | .str z => match x with
    | .str s => match s.cps.toList with
      | [c] => some (decide (c ∈ z.cps.toList))
      | _ => none
    | _ => none
  | _ => none
def inT : Op
  | [x, c] => match memB x c with | some b => some (.bl b) | none => none
  | _ => none
def ninT : Op
  | [x, c] => match memB x c with | some b => some (.bl (!b)) | none => none
  | _ => none
end
end NQ
namespace NQ
open PySem L2
section
variable {K : PySem.W.Frag} {G : Addr → Prop} {H : Hp}
/-! ### a[i] -/
def seqT : T → Option (List T)
  | .lst ts => some ts
  | .tup ts => some ts
  | .ctup ts => some ts
  | .clst ts => some ts
  | _ => none
def ixR : Op
  | [a, .int i] => match a with
    | .str z => if z.length ≤ sizeLine then (match atI z.cps.toList i with | some c => some (.str ⟨#[c]⟩) | none => none) else none
    | a => match seqT a with
      | some ts => match atI ts i with
        | some t => if t.isS then some t else none
        | none => none
      | none => none
  | _ => none
def ixD : Op
  | [.lst ts, .int i] => atI ts i
  | [.tup ts, .int i] => atI ts i
  | _ => none
theorem Rp.seq {x : V} {a : T} {ts : List T} (h : Rp K H x a) (e : seqT a = some ts) : ∃ p vs, x = .ref p ∧ (SqL K H p vs ∨ SqT K H p vs) ∧ RpL K H vs ts := by
  unfold seqT at e
  split at e <;> cases e
  · obtain ⟨p, vs, rfl, h1, h2⟩ := h.lst; exact ⟨p, vs, rfl, .inl h1, h2⟩
  · obtain ⟨p, vs, rfl, h1, h2⟩ := h.tup; exact ⟨p, vs, rfl, .inr h1, h2⟩
  · obtain ⟨p, vs, rfl, h1, h2, _⟩ := h.ctup; exact ⟨p, vs, rfl, .inr h1, h2⟩
  · obtain ⟨p, vs, rfl, h1, h2, _⟩ := h.clst; exact ⟨p, vs, rfl, .inl h1, h2⟩
/-! ### dicts: d[k], k in d -/
def T.key : T → Option Key
  | .int i => some (.inl i)
  | .str s => some (.inr s)
  | _ => none
def keysT : List T → Option (List Key)
  | [] => some []
  | t :: r => match t.key, keysT r with
    | some k, some ks => some (k :: ks)
    | _, _ => none
/-- the value at the key k -/
def lookT {κ : Type} [DecidableEq κ] (ks : List κ) (ts : List T) (k : κ) : Option T := match ks, ts with
  | a :: ks, t :: ts => if a = k then some t else lookT ks ts k
  | _, _ => none
def dlook (d k : T) : Option (Option T) := match d with
  | .dic ks ts => match k.key with
    | some k => some (lookT ks ts k)
    | none => none
  | .dit ks ts => match k with
    | .tup us => match keysT us with
      | some k => some (lookT ks ts k)
      | none => none
    | _ => none
  | _ => none
def dgetR : Op
  | [d, k] => match dlook d k with
    | some (some t) => if t.isS then some t else none
    | _ => none
  | _ => none
def dgetD : Op
  | [d, k] => match dlook d k with
    | some (some t) => some t
    | _ => none
  | _ => none
def dinT : Op
  | [k, d] => match dlook d k with | some o => some (.bl o.isSome) | none => none
  | _ => none
def dninT : Op
  | [k, d] => match dlook d k with | some o => some (.bl (!o.isSome)) | none => none
  | _ => none
/-! ### calls -/
def lenT : Op
  | [.str z] => if z.length ≤ sizeLine then some (.int z.length) else none
  | [a] => match seqT a with | some ts => some (.int ts.length) | none => none
  | _ => none
def intT : Op
  | [.int i] => some (.int i)
  | [.bl b] => some (.int (if b then 1 else 0))
  | [.str a] => match PySem.intText? a with
    | some n => if a.length ≤ 640 then some (.int n) else none
    | none => none
  | _ => none
def strT : Op
  | [.int i] => if i.natAbs.log2 < 1920 then some (.str (toString i)) else none
  | [.str a] => some (.str a)
  | _ => none
def absT : Op
  | [.int i] => some (.int (if i < 0 then -i else i))
  | _ => none
def maxT : Op
  | [.int i, .int j] => some (.int (if j > i then j else i))
  | _ => none
def minT : Op
  | [.int i, .int j] => some (.int (if j < i then j else i))
  | _ => none
/-! ### new lists, tuples -/
theorem Vw.seq {x : V} {a : T} {ts : List T} (h : Vw K G H x a) (e : seqT a = some ts) : ∃ p vs, x = .ref p ∧ (SqL K H p vs ∨ SqT K H p vs) ∧ DfL K G H vs ts := by
  unfold seqT at e
  split at e <;> cases e
  · obtain ⟨p, vs, rfl, h1, h2⟩ := h.lst; exact ⟨p, vs, rfl, .inl (.inl h1), h2⟩
  · obtain ⟨p, vs, rfl, h1, h2⟩ := h.tup; exact ⟨p, vs, rfl, .inr (SqT.of h1), h2⟩
  · obtain ⟨p, vs, rfl, h1, h2, h3⟩ := h.rp.ctup
    have := h2.svs h3
    subst this
    exact ⟨p, _, rfl, .inr h1, DfL.sv h3⟩
  · obtain ⟨p, vs, rfl, h1, h2, h3⟩ := h.rp.clst
    have := h2.svs h3
    subst this
    exact ⟨p, _, rfl, .inl h1, DfL.sv h3⟩
def listT : Op
  | [a] => match seqT a with | some ts => some (.lst ts) | none => none
  | _ => none
/-- list(text) -/
def listS : Op
  | [.str z] => if z.length ≤ sizeLine then some (.lst ((NL.sgn z).map T.str)) else none
  | _ => none
def tupleL : Op
  | [.lst ts] => some (.tup ts)
  | _ => none
def addL : Op
  | [.lst xs, .lst ys] => if xs.length + ys.length ≤ sizeLine then some (.lst (xs ++ ys)) else none
  | _ => none
end
end NQ
namespace NQ
open PySem L2
/-! ### operands that are looked at as they come -/
abbrev PV := V → Hp → Prop
def tAllC : List PV → List TE → TA
  | [], ts => tAll ts
  | P :: Ps, t :: ts => fun σ H Q => t σ H fun x H1 => P x H1 ∧ tAllC Ps ts σ H1 fun xs H2 => Q (x :: xs) H2
  | _ :: _, [] => tNil
/-- what is wanted may be weakened -/
def MonoE (t : TE) : Prop := ∀ (σ : L2.St) (H : Hp) (Q Q' : VK), (∀ x H', Q x H' → Q' x H') → t σ H Q → t σ H Q'
def ConC (X : Cx) (e : Expr) (es : List Expr) (Ps : List PV) (r : RV) : Prop := ∀ ts, PEs X es ts → (∀ t ∈ ts, MonoE t) → PE X e fun σ H Q => tAllC Ps ts σ H fun xs H' => r xs H' Q
inductive ChkL (K : PySem.W.Frag) : List PV → List T → Prop
  | nil {ts : List T} : ChkL K [] ts
  | cons {P : PV} {Ps : List PV} {t : T} {ts : List T} : (∀ H x, Rp K H x t → P x H) → ChkL K Ps ts → ChkL K (P :: Ps) (t :: ts)
abbrev Chk (K : PySem.W.Frag) (Ps : List PV) (op : Op) : Prop := ∀ ts c, op ts = some c → ChkL K Ps ts
inductive CoC (X : Cx) (K : PySem.W.Frag) (e : Expr) (es : List Expr) : Op → Prop
  | one {Ps : List PV} {r : RV} {op : Op} : ConC X e es Ps r → DOp K r op → Chk K Ps op → CoC X K e es op
  | alt {f g : Op} : CoC X K e es f → CoC X K e es g → CoC X K e es (altT f g)
inductive CoCR (X : Cx) (K : PySem.W.Frag) (e : Expr) (es : List Expr) : Op → Prop
  | one {Ps : List PV} {r : RV} {op : Op} : ConC X e es Ps r → DRd K r op → Chk K Ps op → CoCR X K e es op
  | alt {f g : Op} : CoCR X K e es f → CoCR X K e es g → CoCR X K e es (altT f g)
inductive CoCN (X : Cx) (K : PySem.W.Frag) (e : Expr) (es : List Expr) : Op → Prop
  | one {Ps : List PV} {r : RV} {op : Op} : ConC X e es Ps r → DNew K r op → (∀ ts c, op ts = some c → (Sh.all .fz).kids c = some (c.kids.map fun _ => .fz)) → Chk K Ps op → CoCN X K e es op
theorem TQ.mono {K : PySem.W.Frag} {sh : Nat → Sh} {m : Md} {f : Qf} : MonoE (TQ K sh m f) := fun σ H Q Q' i ⟨W, Y, Fm, δ, t, f, e, k⟩ => ⟨W, Y, Fm, δ, t, f, e, fun x H' ed r => i _ _ (k x H' ed r)⟩
theorem Kf.mono {K : PySem.W.Frag} {sh : Nat → Sh} {Wx : WX} {W : Addr → Prop} {Y : List Addr} {Fm : Nat → List Addr} {σ : L2.St} {H : Hp} {r : Rs} {Q Q' : VK} (i : ∀ x H', Q x H' → Q' x H') (h : Kf K sh Wx W Y Fm σ H r Q) : Kf K sh Wx W Y Fm σ H r Q' := by
  unfold Kf at h ⊢
  split at h
  · exact h
  · exact fun x H' Fm' f k d => i _ _ (h x H' Fm' f k d)
  · exact h
theorem TF.mono {K : PySem.W.Frag} {sh : Nat → Sh} {Wx : WX} {f : Dl → Rs} : MonoE (TF K sh Wx f) := fun σ H Q Q' i ⟨W, Y, Fm, δ, f, k⟩ => ⟨W, Y, Fm, δ, f, k.mono i⟩
theorem TO.mono {K : PySem.W.Frag} {sh : Nat → Sh} {Wx : WX} : ∀ {o : Opd}, MonoE (TO K sh Wx o)
  | .var i => fun σ H Q Q' i ⟨v, e, h⟩ => ⟨v, e, i _ _ h⟩
  | .val f => TF.mono
theorem TQs.mono {K : PySem.W.Frag} {sh : Nat → Sh} {l : List (Md × Qf)} : ∀ t ∈ l.map fun p => TQ K sh p.1 p.2, MonoE t := fun t ht => by
  obtain ⟨p, _, rfl⟩ := List.mem_map.mp ht
  exact TQ.mono
theorem TOs.mono {K : PySem.W.Frag} {sh : Nat → Sh} {Wx : WX} {os : List Opd} : ∀ t ∈ os.map (TO K sh Wx), MonoE t := fun t ht => by
  obtain ⟨p, _, rfl⟩ := List.mem_map.mp ht
  exact TO.mono
theorem PEs.len {X : Cx} : ∀ {es : List Expr} {ts : List TE}, PEs X es ts → ts.length = es.length
  | _, _, .nil => rfl
  | _, _, .cons _ r _ => by rw [List.length_cons, List.length_cons, PEs.len r]
section
variable {K : PySem.W.Frag} {sh : Nat → Sh} {Wx : WX} {W : Addr → Prop} {Y : List Addr} {Fm Fm1 : Nat → List Addr} {H H' H1 : Hp} {σ : L2.St} {δ : Dl} {Q : VK}
end
/-- as opn, where no operand raises -/
def opnc (op : Op) (os : List Opd) : Dl → Rs := fun δ => match runs os δ with
  | some (.ok l, δ') => match res l δ' with
    | none => none
    | some ts => match op ts with
      | none => none
      | some c => some (.ok c, δ')
  | _ => none
section
variable {X : Cx} {K : PySem.W.Frag} {sh : Nat → Sh} {Wx : WX} {e : Expr} {es : List Expr} {op : Op} {l : List (Md × Qf)} {os : List Opd}
end
/-! ### methods of built-in types; parts -/
section
variable {X : Cx} {K : PySem.W.Frag} {a lo hi : Expr} {pos p2 : Pos}
variable {r : V → Option Int → Option Int → Hp → VK → Prop}
/-- the parts lo, hi behind the thing -/
def partsT (b1 b2 : Bool) : List T → Option (T × Option Int × Option Int)
  | [a, .int i, .int j] => if b1 && b2 then some (a, some i, some j) else none
  | [a, .int i] => if b1 && !b2 then some (a, some i, none) else if !b1 && b2 then some (a, none, some i) else none
  | _ => none
def cutT {α : Type} (ts : List α) (lo hi : Option Int) : List α := (ts.drop (HT.sIx ts.length 0 lo)).take (HT.sIx ts.length ts.length hi - HT.sIx ts.length 0 lo)
def slS (b1 b2 : Bool) : Op := fun ts => match partsT b1 b2 ts with
  | some (.str z, lo, hi) => if z.length ≤ sizeLine then some (.str (cutS z lo hi)) else none
  | _ => none
def slL (b1 b2 : Bool) : Op := fun ts => match partsT b1 b2 ts with
  | some (.lst us, lo, hi) => some (.lst (cutT us lo hi))
  | some (.clst us, lo, hi) => some (.lst (cutT us lo hi))
  | _ => none
end
end NQ
namespace NQ
open PySem L2
/-! ### texts -/
section
variable {K : PySem.W.Frag} {G : Addr → Prop} {H : Hp}
def strsT : List T → Option (List Str)
  | [] => some []
  | .str s :: r => match strsT r with | some l => some (s :: l) | none => none
  | _ :: _ => none
theorem strs_map (l : List Str) : strsT (l.map T.str) = some l := by
  induction l with
  | nil => rfl
  | cons s r ih => show (match strsT (r.map T.str) with | some l => some (s :: l) | none => none) = _; rw [ih]
theorem RpL.strs {l : List Str} {vs : List V} (h : RpL K H vs (l.map T.str)) : vs = l.map V.str ∧ ∀ s ∈ l, PyData.strOk s = true := by
  induction l generalizing vs with
  | nil => cases h; exact ⟨rfl, fun _ z => absurd z List.not_mem_nil⟩
  | cons s r ih =>
    cases h with
    | cons h1 h2 =>
      obtain ⟨rfl, k⟩ := h1.str
      obtain ⟨rfl, k2⟩ := ih h2
      refine ⟨rfl, fun x hx => ?_⟩
      rcases List.mem_cons.mp hx with rfl | hx
      · exact k
      · exact k2 x hx
theorem sok_join {a : Str} : ∀ {l : List Str}, PyData.strOk a = true → (∀ s ∈ l, PyData.strOk s = true) → PyData.strOk (Str.join a l) = true
  | [], _, _ => sok_empty
  | [x], _, h => h x (List.mem_cons_self ..)
  | x :: y :: r, h1, h => by
    show PyData.strOk (x ++ a ++ Str.join a (y :: r)) = true
    exact sok_app (sok_app (h x (List.mem_cons_self ..)) h1) (sok_join h1 fun s hs => h s (List.mem_cons_of_mem _ hs))
def joinT : Op
  | [.str a, c] => match seqT c with
    | some ts => match strsT ts with
      | some l => if (l.map (·.length)).sum + l.length * a.length ≤ 16777216 then some (.str (Txt.join a l)) else none
      | none => none
    | none => none
  | _ => none
def splitT : Op
  | [.str a, .str b] => if (b.length == 0) = false ∧ a.length + 2 ≤ sizeLine then some (.lst ((Txt.split a b).map T.str)) else none
  | _ => none
def wordsT : Op
  | [.str a] => if a.length + 2 ≤ sizeLine then some (.lst ((Txt.words a).map T.str)) else none
  | _ => none
def stripT : Op
  | [.str a] => if a.length ≤ sizeLine then some (.str (Txt.strip a)) else none
  | _ => none
/-! ### lists: + and * -/
def mulL : Op
  | [.lst xs, .int n] => if -(2 ^ 63) ≤ n ∧ n < 2 ^ 63 ∧ xs.length * n.toNat ≤ sizeLine then some (.lst (List.replicate n.toNat xs).flatten) else none
  | _ => none
end
/-! ### truth -/
def truT : T → Option Bool
  | .non => some false
  | .bl b => some b
  | .int i => some (i != 0)
  | .str z => if z.length ≤ sizeLine then some ((z.length : Int) != 0) else none
  | .lst ts => some (!ts.isEmpty)
  | .tup ts => some (!ts.isEmpty)
  | .ctup ts => some (!ts.isEmpty)
  | .dic ks ts => if ks.length = ts.length then some (!ts.isEmpty) else none
  | .dit ks ts => if ks.length = ts.length then some (!ts.isEmpty) else none
  | _ => none
def TruX (K : PySem.W.Frag) (x : V) (H : Hp) (k : Bool) : Prop := TruV K x H k ∨ ∃ p, x = .ref p ∧ ((∃ kvs, Rd H p (.dT kvs) ∧ k = !kvs.isEmpty) ∨ ∃ kvs, Rd H p (.dK kvs) ∧ k = !kvs.isEmpty)
theorem empty_len {α β : Type} {xs : List α} {ys : List β} (h : xs.length = ys.length) : (!xs.isEmpty) = !ys.isEmpty := by
  cases xs <;> cases ys <;> first | rfl | cases h
theorem empty_zip {α β γ : Type} {xs : List α} {ys : List β} {zs : List γ} (h : xs.length = ys.length) (h2 : ys.length = zs.length) : (!(xs.zip ys).isEmpty) = !zs.isEmpty := by
  cases xs <;> cases ys <;> cases zs <;> first | rfl | (exfalso; simp only [List.length_cons, List.length_nil] at h h2; omega)
theorem Rp.tru {K : PySem.W.Frag} {H : Hp} {x : V} {t : T} {b : Bool} (h : Rp K H x t) (e : truT t = some b) : TruX K x H b := by
  cases t with
  | non => cases e; cases h.non; exact .inl rfl
  | bl c => cases e; cases h.bl; exact .inl rfl
  | int i => cases e; cases h.int; exact .inl rfl
  | str z =>
    simp only [truT] at e
    split at e
    · rename_i hz
      cases e
      obtain ⟨rfl, _⟩ := h.str
      exact .inl ⟨hz, rfl⟩
    · cases e
  | lst ts =>
    cases e
    obtain ⟨a, vs, rfl, h1, h2⟩ := h.lst
    exact .inl (.inl ⟨vs, h1, (empty_len h2.length).symm⟩)
  | tup ts =>
    cases e
    obtain ⟨a, vs, rfl, h1, h2⟩ := h.tup
    exact .inl (.inr (.inl ⟨vs, h1, (empty_len h2.length).symm⟩))
  | ctup ts =>
    cases e
    obtain ⟨a, vs, rfl, h1, h2, _⟩ := h.ctup
    exact .inl (.inr (.inl ⟨vs, h1, (empty_len h2.length).symm⟩))
  | clst ts => cases e
  | dic ks ts =>
    simp only [truT] at e
    split at e
    · cases e
      obtain ⟨a, vs, rfl, l, h1, h2⟩ := h.dic
      exact .inr ⟨a, rfl, .inr ⟨_, h1, (empty_zip l h2.length).symm⟩⟩
    · cases e
  | dit ks ts =>
    simp only [truT] at e
    split at e
    · cases e
      obtain ⟨a, vs, rfl, l, h1, h2⟩ := h.dit
      exact .inr ⟨a, rfl, .inl ⟨_, h1, (empty_zip l h2.length).symm⟩⟩
    · cases e
  | ins c fs ts => cases e
  | gl n => cases e
  | ty n => cases e
/-! ### tests -/
abbrev Qb := Dl → Option Bool
abbrev Rb := Option (Except Xn Bool × Dl)
def qB (f : Qb) : Dl → Rb := fun δ => match f δ with
  | none => none
  | some b => some (.ok b, δ)
def asB (f : Qf) : Qb := fun δ => match f δ with
  | some (.bl b) => some b
  | _ => none
def asTru (f : Qf) : Qb := fun δ => match f δ with
  | some t => truT t
  | none => none
def asBE (f : Dl → Rs) : Dl → Rb := fun δ => match f δ with
  | some (.ok (.bl b), δ') => some (.ok b, δ')
  | some (.error e, δ') => some (.error e, δ')
  | _ => none
def asTruE (f : Dl → Rs) : Dl → Rb := fun δ => match f δ with
  | none => none
  | some (.error e, δ') => some (.error e, δ')
  | some (.ok t, δ') => match truT t with
    | some b => some (.ok b, δ')
    | none => none
def notQ (f : Qb) : Qb := fun δ => match f δ with
  | some b => some (!b)
  | none => none
def andQ (f g : Qb) : Qb := fun δ => match f δ with
  | some true => g δ
  | some false => some false
  | none => none
def orQ (f g : Qb) : Qb := fun δ => match f δ with
  | some true => some true
  | some false => g δ
  | none => none
def notE (f : Dl → Rb) : Dl → Rb := fun δ => match f δ with
  | none => none
  | some (.error e, δ') => some (.error e, δ')
  | some (.ok b, δ') => some (.ok (!b), δ')
def andE (f g : Dl → Rb) : Dl → Rb := fun δ => match f δ with
  | none => none
  | some (.error e, δ') => some (.error e, δ')
  | some (.ok true, δ') => g δ'
  | some (.ok false, δ') => some (.ok false, δ')
def orE (f g : Dl → Rb) : Dl → Rb := fun δ => match f δ with
  | none => none
  | some (.error e, δ') => some (.error e, δ')
  | some (.ok true, δ') => some (.ok true, δ')
  | some (.ok false, δ') => g δ'
section
variable {X : Cx} {K : PySem.W.Frag} {sh : Nat → Sh} {Wx : WX} {W : Addr → Prop} {Y : List Addr} {Fm Fm1 : Nat → List Addr} {H H1 : Hp} {e a b : Expr} {rest : List Expr} {pos : Pos} {es : List Expr} {op : Op} {l : List (Md × Qf)} {os : List Opd} {σ : L2.St}
end
end NQ
namespace NQ
open PySem L2
/-! ### statements -/
inductive Fl where
  | nx | brk | cont | ret (t : T) | exc (e : Xn)
abbrev Ss := Option (Fl × Dl)
abbrev Sf := Dl → Ss
/-- the slots' shapes, the shape of what is returned, the slots that keep their value -/
structure Cf where
  sh : Nat → Sh
  rs : Sh
  pr : Nat → Bool
def Kp (c : Cf) (σ σ' : L2.St) : Prop := ∀ i, c.pr i = true → σ'[i]? = σ[i]?
theorem Kp.refl {c : Cf} {σ : L2.St} : Kp c σ σ := fun _ _ => rfl
theorem Kp.tr {c : Cf} {σ σ1 σ2 : L2.St} (h : Kp c σ σ1) (h2 : Kp c σ1 σ2) : Kp c σ σ2 := fun i p => (h2 i p).trans (h i p)
theorem Kp.set {c : Cf} {σ : L2.St} {i : Nat} {v : Option V} (h : c.pr i = false) : Kp c σ (σ.set i v) := fun j p => by
  rw [List.getElem?_set_ne (fun z => by rw [z, p] at h; cases h)]
section
variable (K : PySem.W.Frag) (c : Cf)
def Kx (W : Addr → Prop) (Y : List Addr) (Fm : Nat → List Addr) (σ : L2.St) (H : Hp) (δ' : Dl) (N : L2.St → Hp → Prop) : Prop :=
  ∀ σ' H' Fm', Kp c σ σ' → Fr K c.sh W Y Fm' H' σ' δ' → Xt (Om Fm) (Om Fm') H H' → N σ' H'
def Kr (W : Addr → Prop) (Y : List Addr) (Fm : Nat → List Addr) (σ : L2.St) (H : Hp) (t : T) (δ' : Dl) (R : VK) : Prop :=
  ∀ x σ' H' Fm' F, Kp c σ σ' → Fr K c.sh W (F ++ Y) Fm' H' σ' δ' → Ow K (Gw (F ++ Y) Fm' W) H' c.rs F x t → Xt (Om Fm) (fun a => a ∈ F ∨ Om Fm' a) H H' → R x H'
def Kes (Wx : WX) (W : Addr → Prop) (Y : List Addr) (Fm : Nat → List Addr) (σ : L2.St) (H : Hp) (e : Xn) (δ' : Dl) : Prop :=
  ∀ σ' d v H' Fm', Kp c σ σ' → Fr K c.sh W Y Fm' H' σ' δ' → Xt (Om Fm) (Om Fm') H H' → (¬ Gw Y Fm' W d ∧ H' d = some (.xd [(e.fld, v)])) → Df K (Gw Y Fm' W) H' v e.val → Wx (.ref (He.ga K e.cls)) (some d) σ' H'
def Ks (Wx : WX) (W : Addr → Prop) (Y : List Addr) (Fm : Nat → List Addr) (σ : L2.St) (H : Hp) (r : Ss) (D : Ends) : Prop := match r with
  | none => False
  | some (.nx, δ') => Kx K c W Y Fm σ H δ' D.nx
  | some (.brk, δ') => Kx K c W Y Fm σ H δ' D.bk
  | some (.cont, δ') => Kx K c W Y Fm σ H δ' D.ct
  | some (.ret t, δ') => Kr K c W Y Fm σ H t δ' D.rt
  | some (.exc e, δ') => Kes K c Wx W Y Fm σ H e δ'
def SF (Wx : WX) (F : Sf) : TS := fun D σ H => ∃ W Y Fm δ, Fr K c.sh W Y Fm H σ δ ∧ Ks K c Wx W Y Fm σ H (F δ) D
end
def sNext : Sf := fun δ => some (.nx, δ)
def sBrk : Sf := fun δ => some (.brk, δ)
def sCont : Sf := fun δ => some (.cont, δ)
def sSeq (F G : Sf) : Sf := fun δ => match F δ with
  | some (.nx, δ') => G δ'
  | r => r
def sSet (i : Nat) (f : Dl → Rs) : Sf := fun δ => match f δ with
  | none => none
  | some (.error e, δ') => some (.exc e, δ')
  | some (.ok t, δ') => some (.nx, δ'.set i (some t))
def sDrop (f : Dl → Rs) : Sf := fun δ => match f δ with
  | none => none
  | some (.error e, δ') => some (.exc e, δ')
  | some (.ok _, δ') => some (.nx, δ')
def sRet (f : Dl → Rs) : Sf := fun δ => match f δ with
  | none => none
  | some (.error e, δ') => some (.exc e, δ')
  | some (.ok t, δ') => some (.ret t, δ')
def sRetV (i : Nat) : Sf := fun δ => match dAt δ i with
  | none => none
  | some t => some (.ret t, δ.set i none)
def sRetN : Sf := fun δ => some (.ret .non, δ)
def sIf (f : Dl → Rb) (F G : Sf) : Sf := fun δ => match f δ with
  | none => none
  | some (.error e, δ') => some (.exc e, δ')
  | some (.ok true, δ') => F δ'
  | some (.ok false, δ') => G δ'
section
variable {K : PySem.W.Frag} {c : Cf} {Wx : WX} {W : Addr → Prop} {Y : List Addr} {Fm Fm1 : Nat → List Addr} {σ σ1 : L2.St} {H H1 : Hp} {δ δ' : Dl}
theorem Kes.ke {e : Xn} (h : Kes K c Wx W Y Fm σ H e δ') : Ke K c.sh Wx W Y Fm σ H e δ' := fun d v H' Fm' f x q1 q2 => h σ d v H' Fm' .refl f x q1 q2
/-- frozen outcomes are outcomes of the shape fz -/
theorem Kr.fz {R : VK} {t : T} (hr : c.rs = .fz) (h : Kr K c W Y Fm σ H t δ' R) : ∀ x H' Fm', Fr K c.sh W Y Fm' H' σ δ' → Xt (Om Fm) (Om Fm') H H' → Df K (Gw Y Fm' W) H' x t → R x H' := fun x H' Fm' f xt d =>
  h x σ H' Fm' [] .refl f (by rw [hr]; exact .fz d) ⟨xt.1, fun a z => z.elim (fun q => absurd q List.not_mem_nil) fun q => xt.2 a q⟩
end
section
variable {X : Cx} {K : PySem.W.Frag} {c : Cf} {Wx : WX} {st : Stmt} {rest : List Stmt} {F G : Sf} {e : Expr} {f : Dl → Rs} {pos : Pos}
def sSetN (i : Nat) (f : Dl → Rs) : Sf := fun δ => match f δ with
  | none => none
  | some (.error e, δ') => some (.exc e, δ')
  | some (.ok t, δ') => if i < δ'.length then some (.nx, δ'.set i (some t)) else none
/-! ### expressions that choose -/
def ifE (g : Dl → Rb) (f1 f2 : Dl → Rs) : Dl → Rs := fun δ => match g δ with
  | none => none
  | some (.error e, δ') => some (.error e, δ')
  | some (.ok true, δ') => f1 δ'
  | some (.ok false, δ') => f2 δ'
def ifQ (g : Qb) (f1 f2 : Qf) : Qf := fun δ => match g δ with
  | none => none
  | some true => f1 δ
  | some false => f2 δ
variable {sh : Nat → Sh} {t a b : Expr}
/-! ### slots and written things -/
def eV (i : Nat) : Qf := fun δ => dAt δ i
def eC (t : T) : Qf := fun _ => some t
end
end NQ
namespace NQ
open PySem L2
/-! ### defs as functions over trees -/
inductive Ou where
  | ret (t : T) | exc (e : Xn)
abbrev Fo := Option (Ou × List T)
def Sh.isO : Sh → Bool
  | .fz => false
  | .vw => false
  | .xc .. => false
  | _ => true
mutual
def Sh.beq : Sh → Sh → Bool
  | .fz, .fz => true
  | .vw, .vw => true
  | .all a, .all b => Sh.beq a b
  | .opt a, .opt b => Sh.beq a b
  | .row a, .row b => beqL a b
  | .flds a, .flds b => beqF a b
  | _, _ => false
def beqL : List Sh → List Sh → Bool
  | [], [] => true
  | a :: r, b :: s => Sh.beq a b && beqL r s
  | _, _ => false
def beqF : List (Str × Sh) → List (Str × Sh) → Bool
  | [], [] => true
  | (x, a) :: r, (y, b) :: s => decide (x = y) && (Sh.beq a b && beqF r s)
  | _, _ => false
end
mutual
theorem Sh.beq_eq : ∀ {a b : Sh}, Sh.beq a b = true → a = b
  | .fz, b, h => by cases b <;> first | rfl | (simp [Sh.beq] at h)
  | .vw, b, h => by cases b <;> first | rfl | (simp [Sh.beq] at h)
  | .xc .., b, h => by cases b <;> (simp [Sh.beq] at h)
  | .all a, b, h => by cases b <;> first | (simp only [Sh.beq] at h; rw [Sh.beq_eq h]) | (simp [Sh.beq] at h)
  | .opt a, b, h => by cases b <;> first | (simp only [Sh.beq] at h; rw [Sh.beq_eq h]) | (simp [Sh.beq] at h)
  | .row a, b, h => by cases b <;> first | (simp only [Sh.beq] at h; rw [beqL_eq h]) | (simp [Sh.beq] at h)
  | .flds a, b, h => by cases b <;> first | (simp only [Sh.beq] at h; rw [beqF_eq h]) | (simp [Sh.beq] at h)
theorem beqL_eq : ∀ {a b : List Sh}, beqL a b = true → a = b
  | [], b, h => by cases b <;> first | rfl | (simp [beqL] at h)
  | a :: r, b, h => by
    cases b with
    | nil => simp [beqL] at h
    | cons b s =>
      simp only [beqL, Bool.and_eq_true] at h
      rw [Sh.beq_eq h.1, beqL_eq h.2]
theorem beqF_eq : ∀ {a b : List (Str × Sh)}, beqF a b = true → a = b
  | [], b, h => by cases b <;> first | rfl | (simp [beqF] at h)
  | (x, a) :: r, b, h => by
    cases b with
    | nil => simp [beqF] at h
    | cons b s =>
      obtain ⟨y, b⟩ := b
      simp only [beqF, Bool.and_eq_true, decide_eq_true_eq] at h
      rw [h.1, Sh.beq_eq h.2.1, beqF_eq h.2.2]
end
def pl : List Sh → Nat → Sh
  | [], _ => .fz
  | s :: _, 0 => s
  | _ :: r, i + 1 => pl r i
section
variable (K : PySem.W.Frag) (ps : List Sh) (rs : Sh)
end
/-- the parameters of one's own as they stand at the end -/
def fin : List Sh → List T → Dl → Option (List T)
  | s :: ss, t :: ts, d :: δ => match fin ss ts δ with
    | none => none
    | some l => if s.isO then (match d with | some u => some (u :: l) | none => none) else some (t :: l)
  | [], [], _ => some []
  | _, _, _ => none
def Sh.nilOk : Sh → Bool
  | .fz => true
  | .opt _ => true
  | _ => false
def fnT (ps : List Sh) (m : Nat) (rs : Sh) (b : Sf) : List T → Fo := fun ts => match b (ts.map some ++ List.replicate m none) with
  | some (.nx, δ) => if rs.nilOk then (match fin ps ts δ with | some l => some (.ret .non, l) | none => none) else none
  | some (.ret t, δ) => match fin ps ts δ with | some l => some (.ret t, l) | none => none
  | some (.exc e, δ) => match fin ps ts δ with | some l => some (.exc e, l) | none => none
  | _ => none
end NQ
namespace NQ
open PySem L2
/-! ### calls -/
def skO : List Opd → List (Option Nat)
  | [] => []
  | .var i :: r => some i :: skO r
  | .val _ :: r => none :: skO r
def owns : List Sh → List (Option Nat) → List Nat
  | s :: ss, some i :: k => if s.isO then i :: owns ss k else owns ss k
  | _ :: ss, none :: k => owns ss k
  | _, _ => []
def wb : List Sh → List (Option Nat) → List T → Dl → Dl
  | s :: ss, some i :: k, t :: ts, δ => wb ss k ts (if s.isO then δ.set i (some t) else δ)
  | _ :: ss, none :: k, _ :: ts, δ => wb ss k ts δ
  | _, _, _, δ => δ
theorem ArgR.len {K : PySem.W.Frag} {G : Addr → Prop} {H : Hp} {σ : L2.St} : ∀ {l : List (Nat ⊕ T)} {xs : List V}, ArgR K G H σ l xs → xs.length = l.length
  | _, _, .nil => rfl
  | _, _, .var _ r => by rw [List.length_cons, List.length_cons, ArgR.len r]
  | _, _, .val _ r => by rw [List.length_cons, List.length_cons, ArgR.len r]
end NQ
namespace NQ
open PySem L2
section
variable {K : PySem.W.Frag} {sh : Nat → Sh} {W : Addr → Prop} {Y F : List Addr} {Fm Fm' : Nat → List Addr} {H H' : Hp} {σ : L2.St} {δ : Dl} {ps : List Sh} {sk : List (Option Nat)} {xs : List V} {ts ts' : List T} {l : List (Nat ⊕ T)}
def Wc (ps : List Sh) (sk : List (Option Nat)) (W : Addr → Prop) (Y : List Addr) (Fm : Nat → List Addr) : Addr → Prop := fun a => a ∈ Y ∨ W a ∨ ∃ i, i ∉ owns ps sk ∧ a ∈ Fm i
end
/-! ### a call of a def -/
def fCall (ps : List Sh) (F : List T → Fo) (os : List Opd) : Dl → Rs := fun δ => match runs os δ with
  | none => none
  | some (.error e, δ') => some (.error e, δ')
  | some (.ok l, δ') => match res l δ' with
    | none => none
    | some ts => match F ts with
      | none => none
      | some (.ret t, ts') => if ts'.length = ps.length then some (.ok t, wb ps (skO os) ts' δ') else none
      | some (.exc e, ts') => if ts'.length = ps.length then some (.error e, wb ps (skO os) ts' δ') else none
section
variable {X : Cx} {K : PySem.W.Frag} {sh : Nat → Sh} {Wx : WX} {ps : List Sh} {rs : Sh} {F : List T → Fo} {os : List Opd} {σ : L2.St} {H : Hp} {Q : VK}
variable {k : Nat} {x : Str} {e : Expr} {es : List Expr} {params : List Str} {p pos : Pos}
end
end NQ
namespace NQ
open PySem L2
/-! ### targets -/
abbrev Gf := T → Dl → Option Dl
abbrev Gfs := List T → Dl → Option Dl
/-- only the slots ns may have changed -/
def On (ns : List Nat) (σ σ' : L2.St) : Prop := σ'.length = σ.length ∧ ∀ i, i ∉ ns → σ'[i]? = σ[i]?
theorem On.refl {ns : List Nat} {σ : L2.St} : On ns σ σ := ⟨rfl, fun _ _ => rfl⟩
theorem On.set {σ : L2.St} {i : Nat} {v : Option V} : On [i] σ (σ.set i v) := ⟨by simp, fun j h => by rw [List.getElem?_set_ne (fun z => h (by rw [z]; exact List.mem_singleton.mpr rfl))]⟩
theorem On.tr {ns ms : List Nat} {σ σ1 σ2 : L2.St} (h : On ns σ σ1) (h2 : On ms σ1 σ2) : On (ns ++ ms) σ σ2 := ⟨h2.1.trans h.1, fun i n => (h2.2 i fun z => n (List.mem_append_right _ z)).trans (h.2 i fun z => n (List.mem_append_left _ z))⟩
def gN (i : Nat) : Gf := fun t δ => some (δ.set i (some t))
def gT (gs : Gfs) : Gf := fun t δ => match seqT t with
  | some ts => gs ts δ
  | none => none
def gNl : Gfs
  | [], δ => some δ
  | _ :: _, _ => none
def gCs (g : Gf) (gs : Gfs) : Gfs
  | t :: ts, δ => match g t δ with
    | some δ' => gs ts δ'
    | none => none
  | [], _ => none
section
variable {X : Cx} {K : PySem.W.Frag} {c : Cf} {x : Str} {pos : Pos} {e : Expr} {es : List Expr}
end
/-! ### what is walked over -/
abbrev Il := Dl → Option (Except Xn (List T) × Dl)
section
variable {K : PySem.W.Frag} {G : Addr → Prop} {H : Hp} {a : Addr} {vs : List V} {ts : List T}
def enT (ts : List T) : List T := ts.zipIdx.map fun p => T.tup [.int (p.2 : Nat), p.1]
end
section
variable {X : Cx} {K : PySem.W.Frag} {sh : Nat → Sh} {Wx : WX} {tg e : Expr} {es : List Expr} {pos p : Pos}
/-- the items of a thing -/
def itT : T → Option (List T)
  | .str z => some ((NL.sgn z).map T.str)
  | t => seqT t
def itE (f : Dl → Rs) : Il := fun δ => match f δ with
  | none => none
  | some (.error e, δ') => some (.error e, δ')
  | some (.ok t, δ') => match itT t with
    | some ts => some (.ok ts, δ')
    | none => none
theorem Df.lst {G : Addr → Prop} {H : Hp} {x : V} {ts : List T} (h : Df K G H x (.lst ts)) : ∃ a vs, x = .ref a ∧ ¬ G a ∧ Rd H a (.lst vs) ∧ DfL K G H vs ts := by
  cases h with
  | sc h => exact h.elim
  | nd n c r => exact ⟨_, _, rfl, n, c, r⟩
theorem Df.tup {G : Addr → Prop} {H : Hp} {x : V} {ts : List T} (h : Df K G H x (.tup ts)) : ∃ a vs, x = .ref a ∧ ¬ G a ∧ H a = some (.tup vs) ∧ DfL K G H vs ts := by
  cases h with
  | sc h => exact h.elim
  | nd n c r => exact ⟨_, _, rfl, n, c, r⟩
/-! ### range, enumerate -/
def itR1 (f : Dl → Rs) : Il := fun δ => match f δ with
  | some (.ok (.int j), δ') => if -(2 ^ 62) ≤ j ∧ j < 2 ^ 62 then some (.ok ((List.range j.toNat).map fun i => T.int (0 + (i : Nat))), δ') else none
  | some (.error e, δ') => some (.error e, δ')
  | _ => none
def itR2 (o1 o2 : Dl → Rs) : Il := fun δ => match o1 δ with
  | some (.ok (.int i), δ1) => match o2 δ1 with
    | some (.ok (.int j), δ') => if -(2 ^ 62) ≤ i ∧ i < 2 ^ 62 ∧ -(2 ^ 62) ≤ j ∧ j < 2 ^ 62 then some (.ok ((List.range (j - i).toNat).map fun n => T.int (i + (n : Nat))), δ') else none
    | some (.error e, δ') => some (.error e, δ')
    | _ => none
  | some (.error e, δ') => some (.error e, δ')
  | _ => none
def itEn (f : Dl → Rs) : Il := fun δ => match f δ with
  | some (.ok (.lst ts), δ') => some (.ok (enT ts), δ')
  | some (.error e, δ') => some (.error e, δ')
  | _ => none
/-! ### for -/
def forM : List T → Gf → Sf → Sf
  | [], _, _, δ => some (.nx, δ)
  | t :: r, g, b, δ => match g t δ with
    | none => none
    | some δ1 => match b δ1 with
      | none => none
      | some (.nx, δ2) => forM r g b δ2
      | some (.cont, δ2) => forM r g b δ2
      | some (.brk, δ2) => some (.nx, δ2)
      | some (.ret t, δ2) => some (.ret t, δ2)
      | some (.exc e, δ2) => some (.exc e, δ2)
def sFor (its : Il) (g : Gf) (b : Sf) : Sf := fun δ => match its δ with
  | none => none
  | some (.error e, δ') => some (.exc e, δ')
  | some (.ok ts, δ') => forM ts g b δ'
variable {c : Cf} {body : List Stmt}
/-! ### while -/
end
end NQ
namespace NQ
open PySem L2
/-! ### comprehensions -/
def wipeD (δ : Dl) : List Nat → Dl
  | [] => δ
  | v :: vs => (wipeD δ vs).set v none
theorem wipeD_len {δ : Dl} : ∀ {vs : List Nat}, (wipeD δ vs).length = δ.length
  | [] => rfl
  | v :: vs => by unfold wipeD; rw [List.length_set, wipeD_len]
theorem wipeD_out {δ : Dl} {i : Nat} : ∀ {vs : List Nat}, i ∉ vs → dAt (wipeD δ vs) i = dAt δ i
  | [], _ => rfl
  | v :: vs, h => by
    unfold wipeD
    rw [dAt_set_ne (fun z => h (by rw [z]; exact List.mem_cons_self ..))]
    exact wipeD_out fun z => h (List.mem_cons_of_mem _ z)
theorem wipeD_in {δ : Dl} {i : Nat} : ∀ {vs : List Nat}, i ∈ vs → dAt (wipeD δ vs) i = none
  | v :: vs, h => by
    unfold wipeD
    by_cases z : i = v
    · subst z
      cases q : dAt ((wipeD δ vs).set i none) i with
      | none => rfl
      | some t => exact absurd (dAt_set_eq q) (by simp)
    · rw [dAt_set_ne z]
      exact wipeD_in ((List.mem_cons.mp h).elim (fun w => absurd w z) id)
theorem wipe_out {σ : L2.St} {i : Nat} : ∀ {vs : List Nat}, i ∉ vs → (wipe σ vs)[i]? = σ[i]?
  | [], _ => rfl
  | v :: vs, h => by
    unfold wipe
    rw [List.getElem?_set_ne (fun z => h (by rw [← z]; exact List.mem_cons_self ..))]
    exact wipe_out fun z => h (List.mem_cons_of_mem _ z)
theorem wipe_in {σ : L2.St} {i : Nat} : ∀ {vs : List Nat}, i ∈ vs → i < σ.length → (wipe σ vs)[i]? = some none
  | v :: vs, h, hl => by
    unfold wipe
    by_cases z : v = i
    · subst z
      rw [List.getElem?_set_self (by rw [wipe_length]; exact hl)]
    · rw [List.getElem?_set_ne z]
      exact wipe_in ((List.mem_cons.mp h).elim (fun w => absurd w.symm z) id) hl
theorem On.wipe {ns vs : List Nat} {σ σ' : L2.St} (h : On ns σ σ') (hs : ∀ i ∈ ns, i ∈ vs) : L2.wipe σ' vs = L2.wipe σ vs := by
  refine List.ext_getElem? fun i => ?_
  by_cases hi : i ∈ vs
  · by_cases hl : i < σ.length
    · rw [wipe_in hi hl, wipe_in hi (by rw [h.1]; exact hl)]
    · rw [List.getElem?_eq_none_iff.mpr (by rw [wipe_length, h.1]; omega), List.getElem?_eq_none_iff.mpr (by rw [wipe_length]; omega)]
  · rw [wipe_out hi, wipe_out hi]
    exact h.2 i fun z => hi (hs i z)
section
variable {K : PySem.W.Frag} {sh : Nat → Sh} {W : Addr → Prop} {Y : List Addr} {Fm : Nat → List Addr} {H H' : Hp} {σ : L2.St} {δ : Dl} {vs : List Nat}
theorem Fr.wipe (f : Fr K sh W Y Fm H σ δ) (hv : ∀ i ∈ vs, sh i = .fz) : Fr K sh W Y Fm H (L2.wipe σ vs) (wipeD δ vs) := by
  refine ⟨fun i t e => ?_, fun i e => ?_, f.nd, f.dj, f.dw, f.wl, by rw [wipeD_len, wipe_length]; exact f.len, f.xn, f.xd, f.xw, f.xl⟩
  · by_cases hi : i ∈ vs
    · rw [wipeD_in hi] at e; cases e
    · rw [wipeD_out hi] at e
      obtain ⟨v, h1, h2⟩ := f.rel i t e
      exact ⟨v, by rw [wipe_out hi]; exact h1, h2⟩
  · by_cases hi : i ∈ vs
    · exact f.fz0 (hv i hi)
    · rw [wipeD_out hi] at e
      exact f.un i e
end
/-- the items that a comprehension makes -/
def lcL (g : Gf) (cnd : Dl → Rb) (el : Dl → Rs) (vs : List Nat) : List T → Dl → Option (List T × Dl)
  | [], δ => some ([], δ)
  | t :: r, δ => match g t δ with
    | none => none
    | some δ1 => match cnd δ1 with
      | some (.ok true, δ2) => match el δ2 with
        | some (.ok u, δ3) => match lcL g cnd el vs r (wipeD δ3 vs) with
          | some (us, δ4) => some (u :: us, δ4)
          | none => none
        | _ => none
      | some (.ok false, δ2) => lcL g cnd el vs r (wipeD δ2 vs)
      | _ => none
def lcE (its : Il) (g : Gf) (cnd : Dl → Rb) (el : Dl → Rs) (vs : List Nat) : Dl → Rs := fun δ => match its δ with
  | none => none
  | some (.error e, δ') => some (.error e, δ')
  | some (.ok ts, δ') => if ts.length < sizeLine then (match lcL g cnd el vs ts (wipeD δ' vs) with
    | some (us, δ2) => some (.ok (.lst us), δ2)
    | none => none) else none
section
variable {X : Cx} {K : PySem.W.Frag} {c : Cf} {Wx : WX} {its : Il} {g : Gf} {cnd : Dl → Rb} {el : Dl → Rs} {vs ns : List Nat} {σ : L2.St} {H : Hp} {Q : VK}
end
end NQ
namespace NQ
open PySem L2
/-! ### comprehensions as expressions -/
def yesB : Dl → Rb := fun δ => some (.ok true, δ)
section
variable {X : Cx} {K : PySem.W.Frag} {c : Cf} {Wx : WX} {its : Il} {g : Gf} {cnd : Dl → Rb} {el : Dl → Rs} {ns : List Nat} {elt tg iter : Expr} {ifs : List Expr} {scope : Scope} {own : List (Str × Nat)} {pos : Pos}
variable {y : Str} {py spos : Pos}
end
/-! ### places in what is one's own -/
inductive Pt where
  | fld (c f : Str) | ix (k : Int)
def setAt {α : Type} (xs : List α) (k : Int) (x : α) : Option (List α) := match ixN xs.length k with
  | some j => some (xs.set j x)
  | none => none
/-- the part f of an object -/
def fldAt : List Str → List T → Str → Option T
  | f :: fs, t :: ts, g => if f = g then some t else fldAt fs ts g
  | _, _, _ => none
def fldSet : List Str → List T → Str → T → Option (List T)
  | f :: fs, t :: ts, g, u => if f = g then some (u :: ts) else (match fldSet fs ts g u with | some r => some (t :: r) | none => none)
  | _, _, _, _ => none
def getP : T → List Pt → Option T
  | t, [] => some t
  | .ins c fs ts, .fld c' f :: π => if c = c' then (match fldAt fs ts f with | some u => getP u π | none => none) else none
  | .lst ts, .ix k :: π => match atI ts k with
    | some u => getP u π
    | none => none
  | _, _ :: _ => none
def setP : T → List Pt → T → Option T
  | _, [], w => some w
  | .ins c fs ts, .fld c' f :: π, w => if c = c' then (match fldAt fs ts f with
      | some u => match setP u π w with
        | some u' => match fldSet fs ts f u' with
          | some ts' => some (.ins c fs ts')
          | none => none
        | none => none
      | none => none) else none
  | .lst ts, .ix k :: π, w => match atI ts k with
    | some u => match setP u π w with
      | some u' => match setAt ts k u' with
        | some ts' => some (.lst ts')
        | none => none
      | none => none
    | none => none
  | _, _ :: _, _ => none
def shP : Sh → List Pt → Option Sh
  | s, [] => some s
  | .flds d, .fld _ f :: π => shP ((d.lookup f).getD .fz) π
  | .all s, .ix _ :: π => shP s π
  | _, _ :: _ => none
/-- the value at a place -/
def pathV (K : PySem.W.Frag) (H : Hp) : V → List Pt → V → Prop
  | v, [], v' => v = v'
  | v, .fld c f :: π, v' => ∃ a dx fs u, v = .ref a ∧ H a = some (.ins (He.ga K c) dx fs) ∧ fs.lookup f = some u ∧ pathV K H u π v'
  | v, .ix k :: π, v' => ∃ a vs u, v = .ref a ∧ H a = some (.lst vs) ∧ atI vs k = some u ∧ pathV K H u π v'
end NQ
namespace NQ
open PySem L2
section
variable {K : PySem.W.Frag} {G : Addr → Prop} {H : Hp}
/-- one part of several that are one's own -/
theorem OwL.split : ∀ {ss : List Sh} {F : List Addr} {vs : List V} {ts : List T} {j : Nat} {t : T}, OwL K G H ss F vs ts → ts[j]? = some t → F.Nodup → (∀ a ∈ F, G a) → ∃ F1 F2 F3 v s, F = F1 ++ F2 ++ F3 ∧ ss[j]? = some s ∧ vs[j]? = some v ∧ Ow K G H s F2 v t ∧
    ∀ (G' U : Addr → Prop) (H' : Hp) (F2' : List Addr) (t' : T), EdP U H H' → (∀ a, U a → a ∈ F2 ∨ H a = none) → (∀ a, G' a → G a ∨ H a = none) → Ow K G' H' s F2' v t' → OwL K G' H' ss (F1 ++ F2' ++ F3) vs (ts.set j t')
  | _, _, _, _, j, t, .nil, e, _, _ => by simp at e
  | s :: ss, _, v :: vs, u :: ts, 0, t, .cons (F := F) (F' := F') h r, e, nd, hG => by
    simp at e
    subst e
    have nx := List.nodup_append.mp nd
    refine ⟨[], F, F', v, s, by simp, rfl, rfl, h, fun G' U H' F2' t' ed hu hg o => ?_⟩
    rw [List.nil_append]
    refine OwL.cons o (r.step ed (fun a z => (hu a z).imp (fun w => hG a (List.mem_append_left _ w)) id) hg fun a z w => ?_)
    exact (hu a w).elim (fun y => nx.2.2 a y a z rfl) fun y => r.alive a z y
  | s :: ss, _, v :: vs, u :: ts, j + 1, t, .cons (F := F) (F' := F') h r, e, nd, hG => by
    have nx := List.nodup_append.mp nd
    obtain ⟨F1, F2, F3, v', s', eF, h1, h2, h3, h4⟩ := OwL.split (j := j) r (by simpa using e) nx.2.1 fun a z => hG a (List.mem_append_right _ z)
    refine ⟨F ++ F1, F2, F3, v', s', by rw [eF]; simp [List.append_assoc], by simpa using h1, by simpa using h2, h3, fun G' U H' F2' t' ed hu hg o => ?_⟩
    have := OwL.cons (h.step ed (fun a z => (hu a z).imp (fun w => hG a (List.mem_append_right _ (by rw [eF]; exact List.mem_append_left _ (List.mem_append_right _ w)))) id) hg fun a z w => (hu a w).elim (fun y => nx.2.2 a z a (by rw [eF]; exact List.mem_append_left _ (List.mem_append_right _ y)) rfl) fun y => h.alive a z y) (h4 G' U H' F2' t' ed hu hg o)
    rw [List.set_cons_succ]
    have e2 : F ++ F1 ++ F2' ++ F3 = F ++ (F1 ++ F2' ++ F3) := by simp [List.append_assoc]
    rw [e2]
    exact this
theorem fld_idx : ∀ {fs : List Str} {ts : List T} {f : Str} {u : T}, fldAt fs ts f = some u → ∃ j : Nat, fs[j]? = some f ∧ ts[j]? = some u ∧ (∀ w, fldSet fs ts f w = some (ts.set j w)) ∧ ∀ vs : List V, fs.length = vs.length → (fs.zip vs).lookup f = vs[j]?
  | [], _, _, _, e => by simp [fldAt] at e
  | _ :: _, [], _, _, e => by simp [fldAt] at e
  | g :: fs, t :: ts, f, u, e => by
    unfold fldAt at e
    by_cases z : g = f
    · rw [if_pos z] at e
      cases e
      subst z
      refine ⟨0, rfl, rfl, fun w => by unfold fldSet; rw [if_pos rfl]; rfl, fun vs hl => ?_⟩
      cases vs with
      | nil => simp at hl
      | cons v vs => simp [List.lookup]
    · rw [if_neg z] at e
      obtain ⟨j, h1, h2, h3, h4⟩ := fld_idx e
      refine ⟨j + 1, by simpa using h1, by simpa using h2, fun w => by rw [fldSet, if_neg z, h3 w]; rfl, fun vs hl => ?_⟩
      cases vs with
      | nil => simp at hl
      | cons v vs =>
        have : (f == g) = false := by simpa using fun q => z q.symm
        simp only [List.zip_cons_cons, List.lookup, this]
        rw [h4 vs (by simpa using hl)]
        simp
theorem atI_ix {α : Type} {ys : List α} {i : Int} {y : α} (e : atI ys i = some y) : ∃ j : Nat, ixN ys.length i = some j ∧ ys[j]? = some y := by
  unfold atI at e
  cases q : ixN ys.length i with
  | none => rw [q] at e; cases e
  | some j => rw [q] at e; exact ⟨j, rfl, e⟩
/-- what lies at a place of what is one's own, and what it is when that changes -/
theorem focus : ∀ {π : List Pt} {s s' : Sh} {F : List Addr} {v : V} {t t' : T}, Ow K G H s F v t → shP s π = some s' → getP t π = some t' → F.Nodup → (∀ a ∈ F, G a) → ∃ F1 F2 F3 v', F = F1 ++ F2 ++ F3 ∧ Ow K G H s' F2 v' t' ∧ pathV K H v π v' ∧
    ∀ (G' U : Addr → Prop) (H' : Hp) (F2' : List Addr) (w : T), EdP U H H' → (∀ a, U a → a ∈ F2 ∨ H a = none) → (∀ a, G' a → G a ∨ H a = none) → Ow K G' H' s' F2' v' w → ∃ t2, setP t π w = some t2 ∧ Ow K G' H' s (F1 ++ F2' ++ F3) v t2
  | [], s, s', F, v, t, t', o, hs, hg, nd, hG => by
    have es : s = s' := by cases s <;> exact Option.some.inj hs
    have et : t = t' := by cases t <;> exact Option.some.inj hg
    subst es et
    exact ⟨[], F, [], v, by simp, o, rfl, fun G' U H' F2' w ed hu hg o' => ⟨w, by cases t <;> rfl, by simpa using o'⟩⟩
  | .fld c f :: π, .flds d, s', _, _, t, t', .nd (a := a) (F := F) (vs := vs) (ss := ss) ce k r, hs, hg, nd, hG => by
    cases t with
    | ins c' fs ts =>
      unfold getP at hg
      split at hg
      · rename_i ec
        subst ec
        split at hg
        · rename_i u q
          obtain ⟨j, j1, j2, j3, j4⟩ := fld_idx q
          cases k
          have nn := List.nodup_cons.mp nd
          obtain ⟨F1, F2, F3, v1, s1, eF, h1, h2, h3, h4⟩ := r.split (j := j) j2 nn.2 fun b z => hG b (List.mem_cons_of_mem _ z)
          rw [List.getElem?_map, j1] at h1
          cases h1
          have n2 : F2.Nodup := by rw [eF] at nn; exact (List.nodup_append.mp (List.nodup_append.mp nn.2).1).2.1
          obtain ⟨P1, P2, P3, v', eP, q1, q2, q3⟩ := focus (π := π) h3 hs hg n2 fun b z => hG b (List.mem_cons_of_mem _ (by rw [eF]; exact List.mem_append_left _ (List.mem_append_right _ z)))
          obtain ⟨cl, dx, ch⟩ := ce
          refine ⟨a :: (F1 ++ P1), P2, P3 ++ F3, v', by rw [eF, eP]; simp [List.append_assoc], q1, ⟨a, dx, _, v1, rfl, ch, ?_, q2⟩, fun G' U H' F2' w ed hu hg' o' => ?_⟩
          · rw [j4 vs cl]; exact h2
          · have hu2 : ∀ b, U b → b ∈ F2 ∨ H b = none := fun b z => (hu b z).imp (fun y => by rw [eP]; exact List.mem_append_left _ (List.mem_append_right _ y)) id
            obtain ⟨u2, w1, w2⟩ := q3 G' U H' F2' w ed hu hg' o'
            have w3 := h4 G' U H' _ u2 ed hu2 hg' w2
            refine ⟨.ins c' fs (ts.set j u2), ?_, ?_⟩
            · unfold setP
              rw [if_pos rfl]
              simp only [q, w1, j3]
            · have na : ¬ U a := fun z => (hu2 a z).elim (fun y => nn.1 (by rw [eF]; exact List.mem_append_left _ (List.mem_append_right _ y))) fun y => by rw [ch] at y; cases y
              have := Ow.nd (s := .flds d) (t := .ins c' fs (ts.set j u2)) (vs := vs) ⟨cl, dx, ed.1 _ _ na ch⟩ rfl w3
              have e2 : a :: (F1 ++ P1) ++ F2' ++ (P3 ++ F3) = a :: (F1 ++ (P1 ++ F2' ++ P3) ++ F3) := by simp [List.append_assoc]
              rw [e2]
              exact this
        · cases hg
      · cases hg
    | _ => cases hg
  | .ix n :: π, .all s, s', _, _, t, t', .nd (a := a) (F := F) (vs := vs) (ss := ss) ce k r, hs, hg, nd, hG => by
    cases t with
    | lst ts =>
      unfold getP at hg
      split at hg
      · rename_i u q
        cases k
        have nn := List.nodup_cons.mp nd
        have hl : vs.length = ts.length := r.rp.length
        obtain ⟨j, jx, j1⟩ := atI_ix q
        have j2 : atI vs n = vs[j]? := by unfold atI; rw [hl, jx]; rfl
        obtain ⟨F1, F2, F3, v1, s1, eF, h1, h2, h3, h4⟩ := r.split (j := j) j1 nn.2 fun b z => hG b (List.mem_cons_of_mem _ z)
        rw [List.getElem?_map, j1] at h1
        cases h1
        have n2 : F2.Nodup := by rw [eF] at nn; exact (List.nodup_append.mp (List.nodup_append.mp nn.2).1).2.1
        obtain ⟨P1, P2, P3, v', eP, q1, q2, q3⟩ := focus (π := π) h3 hs hg n2 fun b z => hG b (List.mem_cons_of_mem _ (by rw [eF]; exact List.mem_append_left _ (List.mem_append_right _ z)))
        refine ⟨a :: (F1 ++ P1), P2, P3 ++ F3, v', by rw [eF, eP]; simp [List.append_assoc], q1, ⟨a, vs, v1, rfl, ce, by rw [j2]; exact h2, q2⟩, fun G' U H' F2' w ed hu hg' o' => ?_⟩
        have hu2 : ∀ b, U b → b ∈ F2 ∨ H b = none := fun b z => (hu b z).imp (fun y => by rw [eP]; exact List.mem_append_left _ (List.mem_append_right _ y)) id
        obtain ⟨u2, w1, w2⟩ := q3 G' U H' F2' w ed hu hg' o'
        have w3 := h4 G' U H' _ u2 ed hu2 hg' w2
        have hset : setAt ts n u2 = some (ts.set j u2) := by unfold setAt; rw [jx]
        refine ⟨.lst (ts.set j u2), ?_, ?_⟩
        · unfold setP
          simp only [q, w1, hset]
        · have na : ¬ U a := fun z => (hu2 a z).elim (fun y => nn.1 (by rw [eF]; exact List.mem_append_left _ (List.mem_append_right _ y))) fun y => by rw [show H a = some (.lst vs) from ce] at y; cases y
          have := Ow.nd (s := .all s) (t := .lst (ts.set j u2)) (vs := vs) (ss := (ts.set j u2).map fun _ => s) (ed.1 _ _ na ce) rfl (by
            have e3 : ((ts.set j u2).map fun _ => s) = (T.lst ts).kids.map fun _ => s := by
              show _ = ts.map fun _ => s
              rw [List.map_set]
              exact List.ext_getElem? fun i => by
                by_cases z : j = i
                · subst z
                  by_cases lt : j < ts.length
                  · rw [List.getElem?_set_self (by simpa using lt), List.getElem?_map, List.getElem?_eq_getElem lt]; rfl
                  · rw [List.getElem?_eq_none_iff.mpr (by simp; omega), List.getElem?_eq_none_iff.mpr (by simp; omega)]
                · rw [List.getElem?_set_ne z]
            rw [e3]
            exact w3)
          have e2 : a :: (F1 ++ P1) ++ F2' ++ (P3 ++ F3) = a :: (F1 ++ (P1 ++ F2' ++ P3) ++ F3) := by simp [List.append_assoc]
          rw [e2]
          exact this
      · cases hg
    | _ => cases hg
  | .fld c f :: π, .fz, s', _, _, t, t', _, hs, _, _, _ => by cases hs
  | .fld c f :: π, .vw, s', _, _, t, t', _, hs, _, _, _ => by cases hs
  | .fld c f :: π, .xc _ _ _ _, s', _, _, t, t', _, hs, _, _, _ => by cases hs
  | .fld c f :: π, .all _, s', _, _, t, t', _, hs, _, _, _ => by cases hs
  | .fld c f :: π, .row _, s', _, _, t, t', _, hs, _, _, _ => by cases hs
  | .fld c f :: π, .opt _, s', _, _, t, t', _, hs, _, _, _ => by cases hs
  | .ix n :: π, .fz, s', _, _, t, t', _, hs, _, _, _ => by cases hs
  | .ix n :: π, .vw, s', _, _, t, t', _, hs, _, _, _ => by cases hs
  | .ix n :: π, .xc _ _ _ _, s', _, _, t, t', _, hs, _, _, _ => by cases hs
  | .ix n :: π, .flds _, s', _, _, t, t', _, hs, _, _, _ => by cases hs
  | .ix n :: π, .row _, s', _, _, t, t', _, hs, _, _, _ => by cases hs
  | .ix n :: π, .opt _, s', _, _, t, t', _, hs, _, _, _ => by cases hs
end
end NQ
namespace NQ
open PySem L2
/-! ### expressions that name a place -/
def eP (i : Nat) (π : List Pt) : Qf := fun δ => match dAt δ i with
  | some t => getP t π
  | none => none
section
variable {K : PySem.W.Frag} {H : Hp}
end
section
variable {X : Cx} {K : PySem.W.Frag} {sh : Nat → Sh} {e o k : Expr} {i : Nat} {π : List Pt} {pos : Pos}
/-- a place is read -/
theorem Fr.place {W : Addr → Prop} {Y : List Addr} {Fm : Nat → List Addr} {H : Hp} {σ : L2.St} {δ : Dl} {t t' : T} {s' : Sh} (f : Fr K sh W Y Fm H σ δ) (e : dAt δ i = some t) (hs : shP (sh i) π = some s') (hn : (sh i).pln = true) (hg : getP t π = some t') :
    ∃ v v' F2, σ[i]? = some (some v) ∧ pathV K H v π v' ∧ Ow K (Gw Y Fm W) H s' F2 v' t' := by
  obtain ⟨v, h1, h2⟩ := f.rel i t e
  obtain ⟨F1, F2, F3, v', eF, k1, k2, k3⟩ := focus (h2.own hn) hs hg (f.nd i) fun a z => .inl (.inr ⟨i, z⟩)
  exact ⟨v, v', F2, h1, k2, k1⟩
/-- a place is written: what it holds is told anew -/
theorem Fr.put {W : Addr → Prop} {N Y : List Addr} {Fm : Nat → List Addr} {H : Hp} {σ : L2.St} {δ : Dl} {t t' : T} {s' : Sh} (f : Fr K sh W (N ++ Y) Fm H σ δ) (e : dAt δ i = some t) (hs : shP (sh i) π = some s') (hn : (sh i).pln = true) (hg : getP t π = some t') :
    ∃ v v' F2, σ[i]? = some (some v) ∧ pathV K H v π v' ∧ Ow K (Gw (N ++ Y) Fm W) H s' F2 v' t' ∧ F2.Nodup ∧ (∀ a ∈ F2, a ∈ Fm i) ∧
      ∀ (U : Addr → Prop) (H' : Hp) (F2' : List Addr) (w : T), EdP U H H' → (∀ a, U a → a ∈ F2) → F2'.Nodup → (∀ a ∈ F2', a ∈ F2 ∨ a ∈ N) → Ow K (Gw (N ++ Y) Fm W) H' s' F2' v' w →
        ∃ t2 Fm', setP t π w = some t2 ∧ Fr K sh W Y Fm' H' σ (δ.set i (some t2)) ∧ (∀ a, Om Fm' a → a ∈ N ∨ Om Fm a) := by
  obtain ⟨v, h1, h2⟩ := f.rel i t e
  obtain ⟨F1, F2, F3, v', eF, k1, k2, k3⟩ := focus (h2.own hn) hs hg (f.nd i) fun a z => .inl (.inr ⟨i, z⟩)
  have nd := f.nd i
  rw [eF] at nd
  have n12 := List.nodup_append.mp nd
  have n1 := List.nodup_append.mp n12.1
  have m2 : ∀ a ∈ F2, a ∈ Fm i := fun a z => by rw [eF]; exact List.mem_append_left _ (List.mem_append_right _ z)
  have m1 : ∀ a ∈ F1, a ∈ Fm i := fun a z => by rw [eF]; exact List.mem_append_left _ (List.mem_append_left _ z)
  have m3 : ∀ a ∈ F3, a ∈ Fm i := fun a z => by rw [eF]; exact List.mem_append_right _ z
  refine ⟨v, v', F2, h1, k2, k1, n1.2.1, m2, fun U H' F2' w ed hu nd2 hsub o => ?_⟩
  have nx := List.nodup_append.mp f.xn
  let Fm' : Nat → List Addr := fun j => if j = i then F1 ++ F2' ++ F3 else Fm j
  have hm : ∀ j a, a ∈ Fm' j → (j = i ∧ (a ∈ Fm i ∨ a ∈ N)) ∨ (j ≠ i ∧ a ∈ Fm j) := fun j a z => by
    by_cases y : j = i
    · simp only [Fm', if_pos y] at z
      refine .inl ⟨y, ?_⟩
      rcases List.mem_append.mp z with z | z
      · rcases List.mem_append.mp z with z | z
        · exact .inl (m1 a z)
        · exact (hsub a z).imp (m2 a) id
      · exact .inl (m3 a z)
    · simp only [Fm', if_neg y] at z
      exact .inr ⟨y, z⟩
  have hgm : ∀ a, Gm Y Fm' a → Gm (N ++ Y) Fm a := fun a z => by
    rcases z with z | ⟨j, z⟩
    · exact .inl (List.mem_append_right _ z)
    · rcases hm j a z with ⟨_, z | z⟩ | ⟨_, z⟩
      · exact .inr ⟨i, z⟩
      · exact .inl (List.mem_append_left _ z)
      · exact .inr ⟨j, z⟩
  have hgw : ∀ a, Gw Y Fm' W a → Gw (N ++ Y) Fm W a := fun a z => z.imp (hgm a) id
  obtain ⟨t2, w1, w2⟩ := k3 (Gw Y Fm' W) U H' F2' w ed (fun a z => .inl (hu a z)) (fun a z => .inl (hgw a z)) (o.weak hgw)
  have il := dAt_lt e
  refine ⟨t2, Fm', w1, ⟨fun j u ej => ?_, fun j ej => ?_, fun j => ?_, fun j l a n q q2 => ?_, fun j a q => ?_, fun a z => ed.2.2 a (f.wl a z), by simpa using f.len, nx.2.1, fun j a q q2 => ?_, fun a q => f.xw a (List.mem_append_right _ q), fun a q => ed.2.2 a (f.xl a (List.mem_append_right _ q))⟩, fun a ⟨j, z⟩ => ?_⟩
  · by_cases y : j = i
    · subst y
      have e2 := dAt_set_eq ej
      cases e2
      refine ⟨v, h1, .inr ?_⟩
      simp only [Fm', if_pos]
      exact w2
    · rw [dAt_set_ne y] at ej
      obtain ⟨x, q1, q2⟩ := f.rel j u ej
      refine ⟨x, q1, ?_⟩
      have e3 : Fm' j = Fm j := if_neg y
      rw [e3]
      exact q2.step ed (fun a z => .inl (.inr ⟨i, m2 a (hu a z)⟩)) (fun a z => .inl (hgw a z)) (fun a z => .inl (hgm a z)) fun a z z2 => f.dj j i a y z (m2 a (hu a z2))
  · by_cases y : j = i
    · subst y
      rw [dAt_set_self il] at ej
      cases ej
    · rw [dAt_set_ne y] at ej
      show (if j = i then _ else Fm j) = []
      rw [if_neg y]
      exact f.un j ej
  · by_cases y : j = i
    · show List.Nodup (if j = i then _ else Fm j)
      rw [if_pos y]
      refine List.nodup_append.mpr ⟨List.nodup_append.mpr ⟨n1.1, nd2, fun a z b z2 eq => ?_⟩, n12.2.1, fun a z b z2 eq => ?_⟩
      · subst eq
        rcases hsub a z2 with z2 | z2
        · exact n1.2.2 a z a z2 rfl
        · exact f.xd i a (List.mem_append_left _ z2) (m1 a z)
      · subst eq
        rcases List.mem_append.mp z with z | z
        · exact n12.2.2 a (List.mem_append_left _ z) a z2 rfl
        · rcases hsub a z with z | z
          · exact n12.2.2 a (List.mem_append_right _ z) a z2 rfl
          · exact f.xd i a (List.mem_append_left _ z) (m3 a z2)
    · show List.Nodup (if j = i then _ else Fm j)
      rw [if_neg y]
      exact f.nd j
  · rcases hm j a q with ⟨y1, y2 | y2⟩ | ⟨y1, y2⟩ <;> rcases hm l a q2 with ⟨x1, x2 | x2⟩ | ⟨x1, x2⟩
    · exact n (y1.trans x1.symm)
    · exact n (y1.trans x1.symm)
    · exact f.dj i l a (fun z => x1 z.symm) y2 x2
    · exact n (y1.trans x1.symm)
    · exact n (y1.trans x1.symm)
    · exact f.xd l a (List.mem_append_left _ y2) x2
    · exact f.dj j i a y1 y2 x2
    · exact f.xd j a (List.mem_append_left _ x2) y2
    · exact f.dj j l a n y2 x2
  · rcases hm j a q with ⟨y1, y2 | y2⟩ | ⟨y1, y2⟩
    · exact f.dw i a y2
    · exact f.xw a (List.mem_append_left _ y2)
    · exact f.dw j a y2
  · rcases hm j a q2 with ⟨y1, y2 | y2⟩ | ⟨y1, y2⟩
    · exact f.xd i a (List.mem_append_right _ q) y2
    · exact nx.2.2 a y2 a q rfl
    · exact f.xd j a (List.mem_append_right _ q) y2
  · rcases hm j a z with ⟨y1, y2 | y2⟩ | ⟨y1, y2⟩
    · exact .inr ⟨i, y2⟩
    · exact .inl y2
    · exact .inr ⟨j, y2⟩
end
/-! ### append -/
theorem OwL.snoc {K : PySem.W.Frag} {G : Addr → Prop} {H : Hp} {s : Sh} {N : List Addr} {y : V} {u : T} (o : Ow K G H s N y u) : ∀ {ss : List Sh} {F : List Addr} {vs : List V} {ts : List T}, OwL K G H ss F vs ts → OwL K G H (ss ++ [s]) (F ++ N) (vs ++ [y]) (ts ++ [u])
  | _, _, _, _, .nil => by
    have := OwL.cons o OwL.nil
    simpa using this
  | _, _, _, _, .cons (F := F) (F' := F') h r => by
    have := OwL.cons h (OwL.snoc o r)
    rw [List.append_assoc]
    exact this
/-- the root of a list of one's own -/
theorem Ow.list {K : PySem.W.Frag} {G : Addr → Prop} {H : Hp} {s : Sh} {F : List Addr} {v : V} {ts : List T} (h : Ow K G H (.all s) F v (.lst ts)) : ∃ a F' vs, v = .ref a ∧ F = a :: F' ∧ H a = some (.lst vs) ∧ OwL K G H (ts.map fun _ => s) F' vs ts := by
  cases h with
  | nd c k r => cases k; exact ⟨_, _, _, rfl, rfl, c, r⟩
end NQ
namespace NQ
open PySem L2
/-! ### x.append(e), x a list of one's own -/
def fApp (i : Nat) (f : Dl → Rs) : Dl → Rs := fun δ => match dAt δ i with
  | some (.lst _) => match f δ with
    | none => none
    | some (.error e, δ') => some (.error e, δ')
    | some (.ok u, δ') => match dAt δ' i with
      | some (.lst ts) => if ts.length < sizeLine then some (.ok .non, δ'.set i (some (.lst (ts ++ [u])))) else none
      | _ => none
  | _ => none
section
variable {X : Cx} {K : PySem.W.Frag} {sh : Nat → Sh} {Wx : WX} {o e : Expr} {i : Nat} {f : Dl → Rs} {apos cpos : Pos}
/-! ### x[k] = e -/
end
def sSetIx (i : Nat) (fk : Qf) (f : Dl → Rs) : Sf := fun δ => match f δ with
  | none => none
  | some (.error e, δ') => some (.exc e, δ')
  | some (.ok u, δ') => match fk δ' with
    | some (.int n) => match dAt δ' i with
      | some (.lst ts) => match setAt ts n u with
        | some ts' => some (.nx, δ'.set i (some (.lst ts')))
        | none => none
      | _ => none
    | _ => none
section
variable {X : Cx} {K : PySem.W.Frag} {c : Cf} {Wx : WX} {o e k : Expr} {i : Nat} {f : Dl → Rs} {fk : Qf} {pos pos' : Pos}
/-! ### x += e, x a number -/
def sAug (i : Nat) (op : Op) (f : Dl → Rs) : Sf := fun δ => match dAt δ i with
  | some a => match f δ with
    | none => none
    | some (.error e, δ') => some (.exc e, δ')
    | some (.ok b, δ') => match op [a, b] with
      | some c => some (.nx, δ'.set i (some c))
      | none => none
  | none => none
def addI : Op
  | [.int i, .int j] => some (.int (i + j))
  | _ => none
def subI : Op
  | [.int i, .int j] => some (.int (i - j))
  | _ => none
end
/-! ### the rules by name -/
section
variable {X : Cx} {K : PySem.W.Frag} {a b : Expr} {pos p : Pos}
abbrev inA : Op := altT inT dinT
abbrev ninA : Op := altT ninT dninT
abbrev ixRA : Op := altT ixR dgetR
abbrev ixA : Op := altT ixRA (altT ixD dgetD)
end
end NQ
namespace NQ
open PySem L2
/-! ### lists joined, lists repeated, also those that are frozen -/
section
variable {K : PySem.W.Frag}
end
section
variable {X : Cx} {K : PySem.W.Frag} {a b c : Expr} {es : List Expr} {pos p : Pos}
abbrev addA : Op := altT addR addL
abbrev mulA : Op := altT mulR mulL
/-! ### calls of what is built in -/
abbrev listA : Op := altT listT listS
/-! ### isinstance, what is built in -/
def T.tyn : T → Option String
  | .non => some "NoneType" | .bl _ => some "bool" | .int _ => some "int" | .str _ => some "str"
  | .lst _ => some "list" | .tup _ => some "tuple" | .ctup _ => some "tuple" | .clst _ => some "list"
  | _ => none
def baseTys : List String := ["NoneType", "bool", "int", "str", "list", "tuple", "dict"]
def subB (m n : String) : Option Bool := if m ∈ baseTys ∧ n ∈ baseTys then some (m == n || (m == "bool" && n == "int")) else none
def isiT : Op
  | [t, .ty n] => match t.tyn with
    | some m => match subB m n with | some b => some (.bl b) | none => none
    | none => none
  | _ => none
end
end NQ
namespace NQ
open PySem L2
/-! ### a and b, a or b as values -/
def truW : T → Option Bool
  | .non => some false
  | .bl b => some b
  | .int i => some (i != 0)
  | .str z => if z.length ≤ sizeLine then some ((z.length : Int) != 0) else none
  | .lst ts => some (!ts.isEmpty)
  | .tup ts => some (!ts.isEmpty)
  | _ => none
theorem Rp.truW {K : PySem.W.Frag} {H : Hp} {x : V} {t : T} {b : Bool} (h : Rp K H x t) (e : truW t = some b) : TruV K x H b := by
  have e2 : truT t = some b := by
    cases t <;> first
      | exact e
      | cases e
  rcases h.tru e2 with z | ⟨p, rfl, z⟩
  · exact z
  · exfalso
    have z : (∃ o, (∃ xs, o = HO.dT xs) ∧ Rd H p o) ∨ ∃ o, (∃ xs, o = HO.dK xs) ∧ Rd H p o := z.imp (fun ⟨k, q, _⟩ => ⟨_, ⟨k, rfl⟩, q⟩) fun ⟨k, q, _⟩ => ⟨_, ⟨k, rfl⟩, q⟩
    have z : ∃ o, (∀ xs, o ≠ HO.lst xs) ∧ (∀ xs, o ≠ HO.tup xs) ∧ (∀ xs, HO.lst xs ≠ o) ∧ Rd H p o ∧ ∀ u v, o ≠ .frz u v := by
      rcases z with ⟨_, ⟨xs, rfl⟩, z⟩ | ⟨_, ⟨xs, rfl⟩, z⟩
      · exact ⟨.dT xs, (fun _ q => nomatch q), (fun _ q => nomatch q), (fun _ q => nomatch q), z, fun _ _ q => nomatch q⟩
      · exact ⟨.dK xs, (fun _ q => nomatch q), (fun _ q => nomatch q), (fun _ q => nomatch q), z, fun _ _ q => nomatch q⟩
    obtain ⟨o, n1, n2, n3, z, n4⟩ := z
    cases t with
    | dit ks ts => cases e
    | ctup ts => cases e
    | clst ts => cases e
    | dic ks ts => cases e
    | lst ts =>
      cases h with
      | sc h => exact h.elim
      | nd c _ =>
        rcases c with c | ⟨_, c⟩ <;> rcases z with z | ⟨_, z⟩ <;> rw [z] at c
        · exact n1 _ (Option.some.inj c)
        · cases c
        · exact n4 _ _ (Option.some.inj c)
        · cases c; exact n1 _ rfl
    | tup ts =>
      cases h with
      | sc h => exact h.elim
      | nd c _ =>
        have c : H p = _ := c
        rcases z with z | ⟨_, z⟩ <;> rw [z] at c
        · exact n2 _ (Option.some.inj c)
        · cases c
    | non => cases h.non
    | bl b => cases h.bl
    | int b => cases h.int
    | str b => cases h.str.1
    | ins c fs ts => cases e
    | gl x => cases e
    | ty n => cases e
def andV (f g : Qf) : Qf := fun δ => match f δ with
  | none => none
  | some t => match truW t with
    | some true => g δ
    | some false => some t
    | none => none
def orV (f g : Qf) : Qf := fun δ => match f δ with
  | none => none
  | some t => match truW t with
    | some true => some t
    | some false => g δ
    | none => none
def andW (f g : Dl → Rs) : Dl → Rs := fun δ => match f δ with
  | none => none
  | some (.error e, δ') => some (.error e, δ')
  | some (.ok t, δ') => match truW t with
    | some true => g δ'
    | some false => some (.ok t, δ')
    | none => none
def orW (f g : Dl → Rs) : Dl → Rs := fun δ => match f δ with
  | none => none
  | some (.error e, δ') => some (.error e, δ')
  | some (.ok t, δ') => match truW t with
    | some true => some (.ok t, δ')
    | some false => g δ'
    | none => none
section
variable {X : Cx} {K : PySem.W.Frag} {sh : Nat → Sh} {Wx : WX} {a b : Expr} {rest : List Expr} {pos : Pos} {f g : Qf} {u v : Dl → Rs} {op : BoolOp}
end
/-! ### a < b < c -/
def chQ (op op' : Op) (f g h : Qf) : Qf := fun δ => match f δ, g δ with
  | some x, some y => match op [x, y] with
    | some (.bl true) => match h δ with
      | some z => op' [y, z]
      | none => none
    | some (.bl false) => some (.bl false)
    | _ => none
  | _, _ => none
section
variable {X : Cx} {K : PySem.W.Frag} {sh : Nat → Sh} {Wx : WX} {a b c : Expr} {pos : Pos} {f g h : Qf} {o o' : CmpOp} {op op' : Op} {m1 m2 m3 : Md}
end
end NQ
namespace NQ
open PySem L2
/-! ### {k: v, ..} -/
def dispT (ks : List Key) : Op := fun ts => if ks.Nodup ∧ ks.length = ts.length ∧ ks.length ≤ 15 then some (.dic ks ts) else none
def fDisp (ks : List Key) (os : List Opd) : Dl → Rs := opn (dispT ks) os
section
variable {X : Cx} {K : PySem.W.Frag} {sh : Nat → Sh} {Wx : WX} {keys : List (Option Expr)} {values : List Expr} {pos : Pos} {ks : List Key} {os : List Opd}
end
/-! ### a, b = e -/
def sAsg (f : Dl → Rs) (g : Gf) : Sf := fun δ => match f δ with
  | none => none
  | some (.error e, δ') => some (.exc e, δ')
  | some (.ok t, δ') => match g t δ' with
    | some δ2 => some (.nx, δ2)
    | none => none
section
variable {X : Cx} {K : PySem.W.Frag} {c : Cf} {Wx : WX} {e tg : Expr} {pos : Pos} {f : Dl → Rs} {g : Gf} {ns : List Nat}
end
/-! ### from here on a thing of one's own is frozen, to the end of the block -/
def sFrz (i : Nat) (G : Sf) : Sf := fun δ => match dAt δ i with
  | none => none
  | some _ => match G δ with
    | none => none
    | some (fl, δ') => some (fl, δ'.set i none)
section
variable {K : PySem.W.Frag} {sh sh' : Nat → Sh} {W : Addr → Prop} {Y : List Addr} {Fm : Nat → List Addr} {H : Hp} {σ : L2.St} {δ : Dl} {i : Nat}
theorem Fr.resh (f : Fr K sh W Y Fm H σ δ) (h : ∀ j, j ≠ i → sh' j = sh j) (e : dAt δ i = none) : Fr K sh' W Y Fm H σ δ := by
  refine { f with rel := fun j t q => ?_ }
  obtain ⟨v, h1, h2⟩ := f.rel j t q
  have : j ≠ i := fun z => by rw [z, e] at q; cases q
  exact ⟨v, h1, by rw [h j this]; exact h2⟩
theorem dAt_set_none : ∀ {δ : Dl} {i : Nat}, dAt (δ.set i none) i = none
  | [], _ => rfl
  | _ :: _, 0 => rfl
  | _ :: r, i + 1 => dAt_set_none (δ := r) (i := i)
theorem dAt_same : ∀ {δ : Dl} {i : Nat} {t : T}, dAt δ i = some t → δ.set i (some t) = δ
  | [], _, _, h => by cases h
  | x :: r, 0, t, h => by show some t :: r = x :: r; rw [← show x = some t from h]
  | x :: r, i + 1, t, h => by show x :: r.set i (some t) = x :: r; rw [dAt_same (δ := r) h]
theorem Fr.drop (f : Fr K sh W Y Fm H σ δ) (h : Fm i = []) : Fr K sh W Y Fm H σ (δ.set i none) := by
  refine { f with rel := fun j t q => ?_, un := fun j q => ?_, len := by rw [List.length_set]; exact f.len }
  · by_cases z : j = i
    · subst z; rw [dAt_set_none] at q; cases q
    · rw [dAt_set_ne z] at q; exact f.rel j t q
  · by_cases z : j = i
    · subst z; exact h
    · rw [dAt_set_ne z] at q; exact f.un j q
theorem Fr.freeze {t : T} (f : Fr K sh W Y Fm H σ δ) (e : dAt δ i = some t) (hn : (sh i).pln = true) : Fr K (fun j => if j = i then .fz else sh j) W Y (fun j => if j = i then [] else Fm j) H σ δ := by
  obtain ⟨v, h1, h2⟩ := f.rel i t e
  have o := h2.own hn
  have f1 := (f.del i (some v)).let
  have f2 := f1.resh (i := i) (sh' := fun j => if j = i then .fz else sh j) (fun j z => if_neg z) dAt_set_none
  have d : Df K (Gw Y (fun j => if j = i then [] else Fm j) W) H v t := Ow.freeze (fun a z => ?_) o
  · have f3 := f2.set (i := i) (v := v) (t := t) (by simp) (.inr (by simp only [if_pos]; exact .fz d))
    rw [List.set_set, List.set_set] at f3
    have es : σ.set i (some v) = σ := by
      refine List.ext_getElem? fun j => ?_
      by_cases z : j = i
      · subst z; rw [List.getElem?_set_self (List.getElem?_eq_some_iff.mp h1).1, h1]
      · rw [List.getElem?_set_ne (fun w => z w.symm)]
    rw [es, dAt_same e] at f3
    exact f3
  · rcases z with (z | ⟨j, z⟩) | z
    · exact ⟨.inl (.inl z), f.xd i a z⟩
    · by_cases y : j = i
      · simp only [if_pos y] at z; exact absurd z List.not_mem_nil
      · simp only [if_neg y] at z
        exact ⟨.inl (.inr ⟨j, z⟩), f.dj j i a y z⟩
    · exact ⟨.inr z, fun w => f.dw i a w z⟩
end
section
variable {X : Cx} {K : PySem.W.Frag} {c : Cf} {Wx : WX} {rest : List Stmt} {G : Sf}
end
end NQ
namespace NQ
open PySem L2
section
variable {K : PySem.W.Frag} {b1 b2 : Bool}
end
section
variable {X : Cx} {K : PySem.W.Frag} {c : Cf} {sh : Nat → Sh} {Wx : WX} {st : Stmt} {rest : List Stmt} {e : Expr}
end
end NQ
namespace NQ
open PySem L2
/-! ### what the pure functions do, step by step -/
section
variable {F G : Sf} {f g h : Dl → Rs} {u v w : Qf} {a b : Qb} {t s : Dl → Rb} {δ : Dl} {i : Nat} {op op' : Op} {fs : List Qf} {os : List Opd} {x y : T} {ts : List T} {gp : Gf} {gs : Gfs} {its : Il}
theorem ap_set : sSet i f δ = match f δ with
  | none => none
  | some (.error e, δ') => some (.exc e, δ')
  | some (.ok t, δ') => some (.nx, δ'.set i (some t)) := (rfl)
theorem ap_setN : sSetN i f δ = match f δ with
  | none => none
  | some (.error e, δ') => some (.exc e, δ')
  | some (.ok t, δ') => if i < δ'.length then some (.nx, δ'.set i (some t)) else none := (rfl)
theorem ap_drop : sDrop f δ = match f δ with
  | none => none
  | some (.error e, δ') => some (.exc e, δ')
  | some (.ok _, δ') => some (.nx, δ') := (rfl)
theorem ap_ret : sRet f δ = match f δ with
  | none => none
  | some (.error e, δ') => some (.exc e, δ')
  | some (.ok t, δ') => some (.ret t, δ') := (rfl)
theorem ap_retV : sRetV i δ = match dAt δ i with
  | none => none
  | some t => some (.ret t, δ.set i none) := (rfl)
theorem ap_if : sIf t F G δ = match t δ with
  | none => none
  | some (.error e, δ') => some (.exc e, δ')
  | some (.ok true, δ') => F δ'
  | some (.ok false, δ') => G δ' := (rfl)
theorem ap_for : sFor its gp F δ = match its δ with
  | none => none
  | some (.error e, δ') => some (.exc e, δ')
  | some (.ok ts, δ') => forM ts gp F δ' := (rfl)
theorem ap_setIx : sSetIx i u f δ = match f δ with
  | none => none
  | some (.error e, δ') => some (.exc e, δ')
  | some (.ok w, δ') => match u δ' with
    | some (.int n) => match dAt δ' i with
      | some (.lst ts) => match setAt ts n w with
        | some ts' => some (.nx, δ'.set i (some (.lst ts')))
        | none => none
      | _ => none
    | _ => none := (rfl)
theorem ap_aug : sAug i op f δ = match dAt δ i with
  | some a => match f δ with
    | none => none
    | some (.error e, δ') => some (.exc e, δ')
    | some (.ok b, δ') => match op [a, b] with
      | some c => some (.nx, δ'.set i (some c))
      | none => none
  | none => none := (rfl)
theorem ap_asg : sAsg f gp δ = match f δ with
  | none => none
  | some (.error e, δ') => some (.exc e, δ')
  | some (.ok t, δ') => match gp t δ' with
    | some δ2 => some (.nx, δ2)
    | none => none := (rfl)
theorem ap_frz : sFrz i F δ = match dAt δ i with
  | none => none
  | some _ => match F δ with
    | none => none
    | some (fl, δ') => some (fl, δ'.set i none) := (rfl)
theorem ap_qE : qE u δ = match u δ with
  | none => none
  | some t => some (.ok t, δ) := (rfl)
theorem ap_opq : opq op fs δ = match evq fs δ with
  | none => none
  | some ts => op ts := (rfl)
theorem ap_opn : opn op os δ = match runs os δ with
  | none => none
  | some (.error e, δ') => some (.error e, δ')
  | some (.ok l, δ') => match res l δ' with
    | none => none
    | some ts => match op ts with
      | none => none
      | some c => some (.ok c, δ') := (rfl)
theorem ap_opnc : opnc op os δ = match runs os δ with
  | some (.ok l, δ') => match res l δ' with
    | none => none
    | some ts => match op ts with
      | none => none
      | some c => some (.ok c, δ')
  | _ => none := (rfl)
theorem ap_call {ps : List Sh} {Ff : List T → Fo} : fCall ps Ff os δ = match runs os δ with
  | none => none
  | some (.error e, δ') => some (.error e, δ')
  | some (.ok l, δ') => match res l δ' with
    | none => none
    | some ts => match Ff ts with
      | none => none
      | some (.ret t, ts') => if ts'.length = ps.length then some (.ok t, wb ps (skO os) ts' δ') else none
      | some (.exc e, ts') => if ts'.length = ps.length then some (.error e, wb ps (skO os) ts' δ') else none := (rfl)
theorem ap_app : fApp i f δ = match dAt δ i with
  | some (.lst _) => match f δ with
    | none => none
    | some (.error e, δ') => some (.error e, δ')
    | some (.ok u, δ') => match dAt δ' i with
      | some (.lst ts) => if ts.length < sizeLine then some (.ok .non, δ'.set i (some (.lst (ts ++ [u])))) else none
      | _ => none
  | _ => none := (rfl)
theorem ap_eV : eV i δ = dAt δ i := (rfl)
theorem ap_ifE : ifE t f g δ = match t δ with
  | none => none
  | some (.error e, δ') => some (.error e, δ')
  | some (.ok true, δ') => f δ'
  | some (.ok false, δ') => g δ' := (rfl)
theorem ap_ifQ : ifQ a u v δ = match a δ with
  | none => none
  | some true => u δ
  | some false => v δ := (rfl)
theorem ap_asB : asB u δ = match u δ with
  | some (.bl b) => some b
  | _ => none := (rfl)
theorem ap_asTru : asTru u δ = match u δ with
  | some t => truT t
  | none => none := (rfl)
theorem ap_asBE : asBE f δ = match f δ with
  | some (.ok (.bl b), δ') => some (.ok b, δ')
  | some (.error e, δ') => some (.error e, δ')
  | _ => none := (rfl)
theorem ap_asTruE : asTruE f δ = match f δ with
  | none => none
  | some (.error e, δ') => some (.error e, δ')
  | some (.ok t, δ') => match truT t with
    | some b => some (.ok b, δ')
    | none => none := (rfl)
theorem ap_qB : qB a δ = match a δ with
  | none => none
  | some b => some (.ok b, δ) := (rfl)
theorem ap_notQ : notQ a δ = match a δ with
  | some b => some (!b)
  | none => none := (rfl)
theorem ap_andQ : andQ a b δ = match a δ with
  | some true => b δ
  | some false => some false
  | none => none := (rfl)
theorem ap_orQ : orQ a b δ = match a δ with
  | some true => some true
  | some false => b δ
  | none => none := (rfl)
theorem ap_notE : notE t δ = match t δ with
  | none => none
  | some (.error e, δ') => some (.error e, δ')
  | some (.ok b, δ') => some (.ok (!b), δ') := (rfl)
theorem ap_andE : andE t s δ = match t δ with
  | none => none
  | some (.error e, δ') => some (.error e, δ')
  | some (.ok true, δ') => s δ'
  | some (.ok false, δ') => some (.ok false, δ') := (rfl)
theorem ap_orE : orE t s δ = match t δ with
  | none => none
  | some (.error e, δ') => some (.error e, δ')
  | some (.ok true, δ') => some (.ok true, δ')
  | some (.ok false, δ') => s δ' := (rfl)
theorem ap_andV : andV u v δ = match u δ with
  | none => none
  | some t => match truW t with
    | some true => v δ
    | some false => some t
    | none => none := (rfl)
theorem ap_orV : orV u v δ = match u δ with
  | none => none
  | some t => match truW t with
    | some true => some t
    | some false => v δ
    | none => none := (rfl)
theorem ap_andW : andW f g δ = match f δ with
  | none => none
  | some (.error e, δ') => some (.error e, δ')
  | some (.ok t, δ') => match truW t with
    | some true => g δ'
    | some false => some (.ok t, δ')
    | none => none := (rfl)
theorem ap_orW : orW f g δ = match f δ with
  | none => none
  | some (.error e, δ') => some (.error e, δ')
  | some (.ok t, δ') => match truW t with
    | some true => some (.ok t, δ')
    | some false => g δ'
    | none => none := (rfl)
theorem ap_chQ : chQ op op' u v w δ = match u δ, v δ with
  | some x, some y => match op [x, y] with
    | some (.bl true) => match w δ with
      | some z => op' [y, z]
      | none => none
    | some (.bl false) => some (.bl false)
    | _ => none
  | _, _ => none := (rfl)
theorem ap_gT : gT gs x δ = match seqT x with
  | some ts => gs ts δ
  | none => none := (rfl)
theorem ap_gCs : gCs gp gs (x :: ts) δ = match gp x δ with
  | some δ' => gs ts δ'
  | none => none := (rfl)
theorem ap_itE : itE f δ = match f δ with
  | none => none
  | some (.error e, δ') => some (.error e, δ')
  | some (.ok t, δ') => match itT t with
    | some ts => some (.ok ts, δ')
    | none => none := (rfl)
theorem ap_itR1 : itR1 f δ = match f δ with
  | some (.ok (.int j), δ') => if -(2 ^ 62) ≤ j ∧ j < 2 ^ 62 then some (.ok ((List.range j.toNat).map fun i => T.int (0 + (i : Nat))), δ') else none
  | some (.error e, δ') => some (.error e, δ')
  | _ => none := (rfl)
theorem ap_itR2 : itR2 f g δ = match f δ with
  | some (.ok (.int i), δ1) => match g δ1 with
    | some (.ok (.int j), δ') => if -(2 ^ 62) ≤ i ∧ i < 2 ^ 62 ∧ -(2 ^ 62) ≤ j ∧ j < 2 ^ 62 then some (.ok ((List.range (j - i).toNat).map fun n => T.int (i + (n : Nat))), δ') else none
    | some (.error e, δ') => some (.error e, δ')
    | _ => none
  | some (.error e, δ') => some (.error e, δ')
  | _ => none := (rfl)
theorem ap_itEn : itEn f δ = match f δ with
  | some (.ok (.lst ts), δ') => some (.ok (enT ts), δ')
  | some (.error e, δ') => some (.error e, δ')
  | _ => none := (rfl)
theorem ap_lcE {vs : List Nat} : lcE its gp t f vs δ = match its δ with
  | none => none
  | some (.error e, δ') => some (.error e, δ')
  | some (.ok ts, δ') => if ts.length < sizeLine then (match lcL gp t f vs ts (wipeD δ' vs) with
    | some (us, δ2) => some (.ok (.lst us), δ2)
    | none => none) else none := (rfl)
theorem ap_alt {f g : Op} : altT f g ts = match f ts with
  | some c => some c
  | none => g ts := (rfl)
theorem ap_fn {ps : List Sh} {m : Nat} {rs : Sh} : fnT ps m rs F ts = match F (ts.map some ++ List.replicate m none) with
  | some (.nx, δ) => if rs.nilOk then (match fin ps ts δ with | some l => some (.ret .non, l) | none => none) else none
  | some (.ret t, δ) => match fin ps ts δ with | some l => some (.ret t, l) | none => none
  | some (.exc e, δ) => match fin ps ts δ with | some l => some (.exc e, l) | none => none
  | _ => none := (rfl)
theorem d0 {r : Dl} {z : Option T} : dAt (z :: r) 0 = z := (rfl)
/-! ### a loop keeps what it keeps -/
end
end NQ
namespace NQ
open PySem L2
/-! ### what the operations do -/
section
variable {i j k n : Int} {a b s : Str} {x y z t u : T} {xs ys ts : List T} {ks : List Key} {c d : Bool} {f : Int → Int → Bool}
theorem o_adds : addR [.str a, .str b] = if a.length + b.length ≤ sizeLine then some (.str (a ++ b)) else none := (rfl)
theorem o_addAs (h : a.length + b.length ≤ sizeLine) : addA [.str a, .str b] = some (.str (a ++ b)) := by simp only [ap_alt, o_adds, if_pos h]
theorem o_addL : addL [.lst xs, .lst ys] = if xs.length + ys.length ≤ sizeLine then some (.lst (xs ++ ys)) else none := (rfl)
theorem o_addAl : addA [.lst xs, .lst ys] = if xs.length + ys.length ≤ sizeLine then some (.lst (xs ++ ys)) else none := (rfl)
theorem o_muli : mulR [.int i, .int j] = if (-(2 ^ 64) < i ∧ i < 2 ^ 64) ∨ (-(2 ^ 64) < j ∧ j < 2 ^ 64) ∨ i.natAbs.log2 + j.natAbs.log2 < 1000000 then some (.int (i * j)) else none := (rfl)
theorem o_muls : mulR [.str a, .int n] = if -(2 ^ 20) < n ∧ n < 2 ^ 20 ∧ a.length * n.toNat ≤ 1000000 then some (.str (Txt.mul a n)) else none := (rfl)
theorem o_mulL : mulL [.lst xs, .int n] = if -(2 ^ 63) ≤ n ∧ n < 2 ^ 63 ∧ xs.length * n.toNat ≤ sizeLine then some (.lst (List.replicate n.toNat xs).flatten) else none := (rfl)
theorem o_mulAi (h : (-(2 ^ 64) < i ∧ i < 2 ^ 64) ∨ (-(2 ^ 64) < j ∧ j < 2 ^ 64) ∨ i.natAbs.log2 + j.natAbs.log2 < 1000000) : mulA [.int i, .int j] = some (.int (i * j)) := by simp only [ap_alt, o_muli, if_pos h]
theorem o_mulAl : mulA [.lst xs, .int n] = if -(2 ^ 63) ≤ n ∧ n < 2 ^ 63 ∧ xs.length * n.toNat ≤ sizeLine then some (.lst (List.replicate n.toNat xs).flatten) else none := (rfl)
theorem o_modi : modT [.int i, .int j] = if 0 < j then some (.int (i % j)) else none := (rfl)
theorem o_divi : divT [.int i, .int j] = if 0 < j ∧ j.natAbs.log2 < 9000 then some (.int (i / j)) else none := (rfl)
theorem log_lt {n : Nat} (h : n < 1000000000000) : n.log2 < 9000 := by
  by_cases z : n = 0
  · rw [z]; decide
  · exact Nat.lt_trans ((Nat.log2_lt z).mpr (show n < 2 ^ 40 by omega)) (by decide)
theorem o_divs (h0 : 0 < j) (h1 : j < 1000000000000) : divT [.int i, .int j] = some (.int (i / j)) := by
  rw [o_divi, if_pos ⟨h0, log_lt (by omega)⟩]
theorem o_powi : powT [.int i, .int j] = if 0 ≤ j ∧ j ≤ 1000000 ∧ i.natAbs < 2 ^ 64 then some (.int (i ^ j.toNat)) else none := (rfl)
theorem o_pows (h0 : 0 ≤ j) (h1 : j ≤ 1000000) (h2 : -18446744073709551616 < i) (h3 : i < 18446744073709551616) : powT [.int i, .int j] = some (.int (i ^ j.toNat)) := by
  rw [o_powi, if_pos ⟨h0, h1, by omega⟩]
theorem sz_eq : sizeLine = 16777216 := (rfl)
theorem o_eq : eqT [x, y] = match eqB x y with | some b => some (.bl b) | none => none := (rfl)
theorem o_ne : neT [x, y] = match eqB x y with | some b => some (.bl (!b)) | none => none := (rfl)
theorem o_len_s : lenT [.str a] = if a.length ≤ sizeLine then some (.int a.length) else none := (rfl)
theorem o_list_s : listA [.str a] = if a.length ≤ sizeLine then some (.lst ((NL.sgn a).map T.str)) else none := (rfl)
theorem o_lst : lstT ts = if ts.length ≤ sizeLine then some (.lst ts) else none := (rfl)
theorem o_tup : tupT ts = if ts.length ≤ sizeLine then some (.tup ts) else none := (rfl)
theorem o_disp : dispT ks ts = if ks.Nodup ∧ ks.length = ts.length ∧ ks.length ≤ 15 then some (.dic ks ts) else none := (rfl)
theorem o_split : splitT [.str a, .str b] = if (b.length == 0) = false ∧ a.length + 2 ≤ sizeLine then some (.lst ((Txt.split a b).map T.str)) else none := (rfl)
theorem o_words : wordsT [.str a] = if a.length + 2 ≤ sizeLine then some (.lst ((Txt.words a).map T.str)) else none := (rfl)
theorem o_strip : stripT [.str a] = if a.length ≤ sizeLine then some (.str (Txt.strip a)) else none := (rfl)
theorem o_join {l : List Str} : joinT [.str a, .lst (l.map T.str)] = if (l.map (·.length)).sum + l.length * a.length ≤ 16777216 then some (.str (Txt.join a l)) else none := by
  unfold joinT
  simp only [seqT, strs_map]
theorem o_slS1 : slS true false [.str a, .int i] = if a.length ≤ sizeLine then some (.str (cutS a (some i) none)) else none := (rfl)
theorem o_slS2 : slS false true [.str a, .int i] = if a.length ≤ sizeLine then some (.str (cutS a none (some i))) else none := (rfl)
theorem o_slS3 : slS true true [.str a, .int i, .int j] = if a.length ≤ sizeLine then some (.str (cutS a (some i) (some j))) else none := (rfl)
theorem o_ixR_l : ixRA [.lst xs, .int i] = match atI xs i with
    | some t => if t.isS then some t else none
    | none => none := by
  simp only [ap_alt, ixR, seqT]
  cases atI xs i with
  | none => rfl
  | some t => cases h : t.isS <;> simp [h, dgetR, dlook]
theorem o_ixR_t : ixRA [.tup xs, .int i] = match atI xs i with
    | some t => if t.isS then some t else none
    | none => none := by
  simp only [ap_alt, ixR, seqT]
  cases atI xs i with
  | none => rfl
  | some t => cases h : t.isS <;> simp [h, dgetR, dlook]
theorem o_ix_l : ixA [.lst xs, .int i] = atI xs i := by
  simp only [ap_alt, o_ixR_l, ixR, seqT, ixD, dgetR, dgetD, dlook]
  cases atI xs i with
  | none => rfl
  | some t => cases h : t.isS <;> simp [h]
theorem o_ix_t : ixA [.tup xs, .int i] = atI xs i := by
  simp only [ap_alt, o_ixR_t, ixR, seqT, ixD, dgetR, dgetD, dlook]
  cases atI xs i with
  | none => rfl
  | some t => cases h : t.isS <;> simp [h]
theorem o_ix_s : ixA [.str a, .int i] = if a.length ≤ sizeLine then (match atI a.cps.toList i with | some c => some (.str ⟨#[c]⟩) | none => none) else none := by
  simp only [ap_alt, ixR, ixD, dgetR, dgetD, dlook]
  by_cases h : a.length ≤ sizeLine
  · simp only [if_pos h]
    cases atI a.cps.toList i <;> rfl
  · simp only [if_neg h]
theorem o_ix_d {k : Key} (h : x.key = some k) : ixA [.dic ks xs, x] = lookT ks xs k := by
  have e1 : ixR [.dic ks xs, x] = none := by cases x <;> rfl
  have e2 : ixD [.dic ks xs, x] = none := by cases x <;> rfl
  simp only [ap_alt, e1, e2, dgetR, dgetD, dlook, h]
  cases lookT ks xs k with
  | none => rfl
  | some t => cases h : t.isS <;> simp [h]
theorem o_in (h : memB x y = some c) : inA [x, y] = some (.bl c) := by
  simp only [ap_alt, inT, h]
theorem o_nin (h : memB x y = some c) : ninA [x, y] = some (.bl (!c)) := by
  simp only [ap_alt, ninT, h]
theorem o_isi {m q : String} (h : x.tyn = some m) (h2 : subB m q = some c) : isiT [x, .ty q] = some (.bl c) := by
  simp only [isiT, h, h2]
theorem tru_b : truT (.bl c) = some c := (rfl)
theorem tru_i : truT (.int i) = some (i != 0) := (rfl)
theorem tru_n : truT .non = some false := (rfl)
theorem tru_s : truT (.str a) = if a.length ≤ sizeLine then some ((a.length : Int) != 0) else none := (rfl)
theorem ixN_nat {m n : Nat} (h : n < m) : ixN m (n : Int) = some n := by
  unfold ixN
  rw [if_pos (by omega), if_pos (by omega)]
  rfl
theorem atI_nat {α : Type} {xs : List α} {n : Nat} (h : n < xs.length) : atI xs (n : Int) = xs[n]? := by
  unfold atI
  rw [ixN_nat h]
  rfl
theorem atI0 {α : Type} {x : α} {r : List α} : atI (x :: r) 0 = some x := atI_nat (n := 0) (by simp)
theorem atI1 {α : Type} {x y : α} {r : List α} : atI (x :: y :: r) 1 = some y := atI_nat (n := 1) (by simp)
end
end NQ
namespace NQ
open PySem L2
/-! ### the law's own call -/
end NQ
namespace NQ
open PySem L2
/-! ### one-step equations that the kernel need not unfold -/
section
variable {δ r : Dl} {f : Dl → Rs} {os : List Opd} {i j : Nat} {t u : T} {ts us : List T} {q : Qf} {qs : List Qf} {l : List (Nat ⊕ T)} {s : Sh} {ss : List Sh} {k : List (Option Nat)} {x y : Option T}
theorem rnV : runs (.var i :: os) δ = match dAt δ i with
    | none => none
    | some _ => match runs os δ with
      | none => none
      | some (.error e, δ') => some (.error e, δ')
      | some (.ok l, δ') => some (.ok (.inl i :: l), δ') := (rfl)
theorem rnE : runs (.val f :: os) δ = match f δ with
    | none => none
    | some (.error e, δ') => some (.error e, δ')
    | some (.ok t, δ1) => match runs os δ1 with
      | none => none
      | some (.error e, δ') => some (.error e, δ')
      | some (.ok l, δ') => some (.ok (.inr t :: l), δ') := (rfl)
theorem evS : evq (q :: qs) δ = match q δ with
    | none => none
    | some t => match evq qs δ with
      | none => none
      | some ts => some (t :: ts) := (rfl)
theorem rsV : res (.inl i :: l) δ = match dAt δ i, res l δ with
    | some t, some ts => some (t :: ts)
    | _, _ => none := (rfl)
theorem rsE : res (.inr t :: l) δ = match res l δ with
    | some ts => some (t :: ts)
    | none => none := (rfl)
theorem sk0 : skO [] = [] := (rfl)
theorem skV : skO (.var i :: os) = some i :: skO os := (rfl)
theorem skE : skO (.val f :: os) = none :: skO os := (rfl)
theorem wb0 : wb [] k us δ = δ := by cases k <;> rfl
theorem wbV : wb (s :: ss) (some i :: k) (t :: ts) δ = wb ss k ts (if s.isO then δ.set i (some t) else δ) := (rfl)
theorem wbE : wb (s :: ss) (none :: k) (t :: ts) δ = wb ss k ts δ := by cases s <;> rfl
theorem fin0 : fin [] [] δ = some [] := by cases δ <;> rfl
theorem finS : fin (s :: ss) (t :: ts) (x :: δ) = match fin ss ts δ with
    | none => none
    | some l => if s.isO then (match x with | some u => some (u :: l) | none => none) else some (t :: l) := (rfl)
theorem isO_fz : Sh.isO .fz = false := (rfl)
theorem isO_vw : Sh.isO .vw = false := (rfl)
theorem isO_all : Sh.isO (.all s) = true := (rfl)
theorem isO_opt : Sh.isO (.opt s) = true := (rfl)
theorem isO_flds {d : List (Str × Sh)} : Sh.isO (.flds d) = true := (rfl)
theorem isO_row : Sh.isO (.row ss) = true := (rfl)
theorem wp0 : wipeD δ [] = δ := (rfl)
theorem wpS {vs : List Nat} : wipeD δ (i :: vs) = (wipeD δ vs).set i none := (rfl)
theorem st0 {α : Type} {a b : α} {l : List α} : (a :: l).set 0 b = b :: l := (rfl)
theorem stS {α : Type} {a b : α} {l : List α} {n : Nat} : (a :: l).set (n + 1) b = a :: l.set n b := (rfl)
theorem mp0 {α β : Type} {g : α → β} : [].map g = [] := (rfl)
theorem mpS {α β : Type} {g : α → β} {a : α} {l : List α} : (a :: l).map g = g a :: l.map g := (rfl)
theorem ap0 {α : Type} {l : List α} : [] ++ l = l := (rfl)
theorem apS {α : Type} {a : α} {l m : List α} : a :: l ++ m = a :: (l ++ m) := (rfl)
theorem rp0 {α : Type} {a : α} : List.replicate 0 a = [] := (rfl)
theorem rpS {α : Type} {a : α} {n : Nat} : List.replicate (n + 1) a = a :: List.replicate n a := (rfl)
end
end NQ
namespace NQ
open PySem L2
/-! ### raise -/
def sRaise (c fld : Str) (f : Dl → Rs) : Sf := fun δ => match f δ with
  | none => none
  | some (.error e, δ') => some (.exc e, δ')
  | some (.ok t, δ') => some (.exc ⟨c, fld, t⟩, δ')
section
variable {X : Cx} {K : PySem.W.Frag} {c : Cf} {Wx : WX} {e : Expr} {f : Dl → Rs} {x fld : Str} {k : Nat} {p pos pos2 : Pos}
end
/-! ### match over texts -/
/-- the cases, by the text -/
abbrev Mf := Str → Sf
def mNil : Mf := fun _ => sNext
def mCs (ks : List Str) (F : Sf) (R : Mf) : Mf := fun a => if a ∈ ks then F else R a
def mCg (ks : List Str) (g : Dl → Rb) (F : Sf) (R : Mf) : Mf := fun a => if a ∈ ks then sIf g F (R a) else R a
def mAny (F : Sf) : Mf := fun _ => F
def sMatch (f : Dl → Rs) (M : Mf) : Sf := fun δ => match f δ with
  | none => none
  | some (.error e, δ') => some (.exc e, δ')
  | some (.ok (.str a), δ') => M a δ'
  | some (.ok _, _) => none
section
variable {X : Cx} {K : PySem.W.Frag} {c : Cf} {Wx : WX} {e : Expr} {f : Dl → Rs} {F : Sf} {M : Mf} {p : Pattern} {ks : List Str} {b : List Stmt} {r : List MatchCase} {pos : Pos}
end
end NQ
namespace NQ
open PySem L2
/-! ### try: body, except x as n: suite; except x: suite -/
def Cf.xcAt (c : Cf) (i : Nat) (a d : Addr) (cl fl : Str) : Cf := { c with sh := fun j => if j = i then .xc a d cl fl else c.sh j }
/-- which classes of exceptions are of the class c; those that are have the field fl -/
def ExT (K : PySem.W.Frag) (c : Value) (fl : Str) : List (Str × Bool) → Prop
  | [] => True
  | (x, b) :: r => PySem.W.exmOne K (.ref (He.ga K x)) c = some b ∧ (b = true → XfC K (He.ga K x) ∧ PySem.W.findIn K (.ref (He.ga K x)) fl = some none) ∧ ExT K c fl r
theorem ExT.at {K : PySem.W.Frag} {c : Value} {fl : Str} : ∀ {l : List (Str × Bool)} {x : Str} {b : Bool}, ExT K c fl l → l.lookup x = some b → PySem.W.exmOne K (.ref (He.ga K x)) c = some b ∧ (b = true → XfC K (He.ga K x) ∧ PySem.W.findIn K (.ref (He.ga K x)) fl = some none)
  | [], _, _, _, h => by simp at h
  | (y, d) :: r, x, b, ⟨h1, h2, h3⟩, e => by
    rw [List.lookup_cons] at e
    split at e
    · rename_i q
      cases e
      rw [eq_of_beq q]
      exact ⟨h1, h2⟩
    · exact ExT.at h3 e
def sTryAs (m : List (Str × Bool)) (fl : Str) (i : Nat) (F : Sf) (G : Xn → Sf) : Sf := fun δ => match F δ with
  | some (.exc e, δ') => match m.lookup e.cls with
    | some true => if e.fld = fl ∧ i < δ'.length then (match G e (δ'.set i (some e.val)) with
      | some (.exc _, _) => none
      | some (fl, δ2) => some (fl, δ2.set i none)
      | none => none) else none
    | some false => some (.exc e, δ')
    | none => none
  | r => r
/-- the same without the exception's name -/
def ExO (K : PySem.W.Frag) (c : Value) : List (Str × Bool) → Prop
  | [] => True
  | (x, b) :: r => PySem.W.exmOne K (.ref (He.ga K x)) c = some b ∧ ExO K c r
theorem ExO.at {K : PySem.W.Frag} {c : Value} : ∀ {l : List (Str × Bool)} {x : Str} {b : Bool}, ExO K c l → l.lookup x = some b → PySem.W.exmOne K (.ref (He.ga K x)) c = some b
  | [], _, _, _, h => by simp at h
  | (y, d) :: r, x, b, ⟨h1, h2⟩, e => by
    rw [List.lookup_cons] at e
    split at e
    · rename_i q
      cases e
      rw [eq_of_beq q]
      exact h1
    · exact ExO.at h2 e
def sTry (m : List (Str × Bool)) (F : Sf) (G : Sf) : Sf := fun δ => match F δ with
  | some (.exc e, δ') => match m.lookup e.cls with
    | some true => (match G δ' with
      | some (.exc _, _) => none
      | r => r)
    | some false => some (.exc e, δ')
    | none => none
  | r => r
section
variable {X : Cx} {K : PySem.W.Frag} {c : Cf} {Wx : WX} {F : Sf} {G : Xn → Sf} {m : List (Str × Bool)} {i : Nat} {x n : Str} {cv : Value} {body suite : List Stmt} {b₀ : Stmt} {np pos pos' : Pos}
/-! ### in the suite: e.f, isinstance(e, C) -/
variable {sh : Nat → Sh} {a d : Addr} {oe : Obj} {pn : List (Addr × Obj)} {cl fl : Str} {o : Expr}
end
end NQ
namespace NQ
open PySem L2
/-! ### walking through the pure functions: what comes of them, wished for -/
/-- a state that is to be written out -/
def Nm (X : Dl) (P : Dl → Prop) : Prop := P X
theorem nm_eq {X Y : Dl} {P : Dl → Prop} (e : X = Y) (z : P Y) : Nm X P := by subst e; exact z
def Is {α : Type} (t : T) (mk : α → T) (P : α → Prop) : Prop := ∃ k, t = mk k ∧ P k
theorem is_mk {α : Type} {k : α} {mk : α → T} {P : α → Prop} (z : P k) : Is (mk k) mk P := ⟨k, rfl, z⟩
def At (δ : Dl) (i : Nat) (P : T → Prop) : Prop := ∃ t, dAt δ i = some t ∧ P t
theorem at_mk {δ : Dl} {i : Nat} {t : T} {P : T → Prop} (e : dAt δ i = some t) (z : P t) : At δ i P := ⟨t, e, z⟩
def So {α : Type} (o : Option α) (P : α → Prop) : Prop := ∃ t, o = some t ∧ P t
theorem so_mk {α : Type} {o : Option α} {t : α} {P : α → Prop} (e : o = some t) (z : P t) : So o P := ⟨t, e, z⟩
def S2 {α β : Type} (o : Option (α × β)) (P : α → β → Prop) : Prop := ∃ t u, o = some (t, u) ∧ P t u
theorem s2_mk {α β : Type} {o : Option (α × β)} {t : α} {u : β} {P : α → β → Prop} (e : o = some (t, u)) (z : P t u) : S2 o P := ⟨t, u, e, z⟩
def Sd (c P : Prop) : Prop := c ∧ P
theorem sd_mk {c P : Prop} (h : c) (z : P) : Sd c P := ⟨h, z⟩
def Fn (ps : List Sh) (ts : List T) (δ : Dl) (P : List T → Prop) : Prop := ∃ l, fin ps ts δ = some l ∧ P l
theorem fn_mk {ps : List Sh} {ts : List T} {δ : Dl} {l : List T} {P : List T → Prop} (e : fin ps ts δ = some l) (z : P l) : Fn ps ts δ P := ⟨l, e, z⟩
def Ws (r : Ss) (N B C : Dl → Prop) (R : T → Dl → Prop) (E : Xn → Dl → Prop) : Prop := match r with
  | none => False
  | some (.nx, δ) => N δ
  | some (.brk, δ) => B δ
  | some (.cont, δ) => C δ
  | some (.ret t, δ) => R t δ
  | some (.exc e, δ) => E e δ
def We (r : Rs) (Q : T → Dl → Prop) (E : Xn → Dl → Prop) : Prop := match r with
  | none => False
  | some (.ok t, δ) => Q t δ
  | some (.error e, δ) => E e δ
def Wq (r : Option T) (Q : T → Prop) : Prop := match r with
  | none => False
  | some t => Q t
def Wb (r : Rb) (Q : Bool → Dl → Prop) (E : Xn → Dl → Prop) : Prop := match r with
  | none => False
  | some (.ok t, δ) => Q t δ
  | some (.error e, δ) => E e δ
def Wt (r : Option Bool) (Q : Bool → Prop) : Prop := match r with
  | none => False
  | some t => Q t
def Wl (r : Option (List T)) (Q : List T → Prop) : Prop := match r with
  | none => False
  | some t => Q t
def Wa (os : List Opd) (δ : Dl) (Q : List T → Dl → Prop) (E : Xn → Dl → Prop) : Prop := match runs os δ with
  | none => False
  | some (.error e, δ') => E e δ'
  | some (.ok l, δ') => match res l δ' with
    | none => False
    | some ts => Q ts δ'
def Wi (r : Option (Except Xn (List T) × Dl)) (Q : List T → Dl → Prop) (E : Xn → Dl → Prop) : Prop := match r with
  | none => False
  | some (.ok t, δ) => Q t δ
  | some (.error e, δ) => E e δ
def Wd (r : Option Dl) (Q : Dl → Prop) : Prop := match r with
  | none => False
  | some t => Q t
def Wf (r : Fo) (R : T → List T → Prop) (E : Xn → List T → Prop) : Prop := match r with
  | none => False
  | some (.ret t, l) => R t l
  | some (.exc e, l) => E e l
theorem wf_eq {r : Fo} {t : T} {l : List T} {R : T → List T → Prop} {E : Xn → List T → Prop} (e : r = some (.ret t, l)) (h : R t l) : Wf r R E := by rw [e]; exact h
theorem wf_eqX {r : Fo} {x : Xn} {l : List T} {R : T → List T → Prop} {E : Xn → List T → Prop} (e : r = some (.exc x, l)) (h : E x l) : Wf r R E := by rw [e]; exact h
theorem wf_or {r : Fo} {P : T → List T → Prop} {P2 : Xn → List T → Prop} (h : Wf r P P2) : (∃ t l, r = some (.ret t, l) ∧ P t l) ∨ ∃ e l, r = some (.exc e, l) ∧ P2 e l := by
  unfold Wf at h
  split at h
  · exact h.elim
  · exact .inl ⟨_, _, rfl, h⟩
  · exact .inr ⟨_, _, rfl, h⟩
theorem we_c {r : Rs} {Q : T → Dl → Prop} {E : Xn → Dl → Prop} (h : We r Q E) : (∃ t δ, r = some (.ok t, δ) ∧ Q t δ) ∨ ∃ e δ, r = some (.error e, δ) ∧ E e δ := by
  unfold We at h
  split at h
  · exact h.elim
  · exact .inl ⟨_, _, rfl, h⟩
  · exact .inr ⟨_, _, rfl, h⟩
theorem wb_c {r : Rb} {Q : Bool → Dl → Prop} {E : Xn → Dl → Prop} (h : Wb r Q E) : (∃ t δ, r = some (.ok t, δ) ∧ Q t δ) ∨ ∃ e δ, r = some (.error e, δ) ∧ E e δ := by
  unfold Wb at h
  split at h
  · exact h.elim
  · exact .inl ⟨_, _, rfl, h⟩
  · exact .inr ⟨_, _, rfl, h⟩
theorem wi_c {r : Option (Except Xn (List T) × Dl)} {Q : List T → Dl → Prop} {E : Xn → Dl → Prop} (h : Wi r Q E) : (∃ t δ, r = some (.ok t, δ) ∧ Q t δ) ∨ ∃ e δ, r = some (.error e, δ) ∧ E e δ := by
  unfold Wi at h
  split at h
  · exact h.elim
  · exact .inl ⟨_, _, rfl, h⟩
  · exact .inr ⟨_, _, rfl, h⟩
theorem wa_c {os : List Opd} {δ : Dl} {Q : List T → Dl → Prop} {E : Xn → Dl → Prop} (h : Wa os δ Q E) : (∃ l δ' ts, runs os δ = some (.ok l, δ') ∧ res l δ' = some ts ∧ Q ts δ') ∨ ∃ e δ', runs os δ = some (.error e, δ') ∧ E e δ' := by
  unfold Wa at h
  split at h
  · exact h.elim
  · rename_i e; exact .inr ⟨_, _, e, h⟩
  · rename_i e
    split at h
    · exact h.elim
    · rename_i e2; exact .inl ⟨_, _, _, e, e2, h⟩
theorem wt_ex {r : Option Bool} {P : Bool → Prop} (h : Wt r P) : ∃ t, r = some t ∧ P t := by
  cases r with
  | none => exact h.elim
  | some t => exact ⟨t, rfl, h⟩
theorem wl_ex {r : Option (List T)} {P : List T → Prop} (h : Wl r P) : ∃ t, r = some t ∧ P t := by
  cases r with
  | none => exact h.elim
  | some t => exact ⟨t, rfl, h⟩
theorem wd_ex {r : Option Dl} {P : Dl → Prop} (h : Wd r P) : ∃ t, r = some t ∧ P t := by
  cases r with
  | none => exact h.elim
  | some t => exact ⟨t, rfl, h⟩
theorem ws_c {r : Ss} {N B C : Dl → Prop} {R : T → Dl → Prop} {E : Xn → Dl → Prop} (h : Ws r N B C R E) : ∃ f δ, r = some (f, δ) ∧ Ws (some (f, δ)) N B C R E := by
  cases r with
  | none => exact h.elim
  | some p => exact ⟨p.1, p.2, rfl, h⟩
theorem wq_eq {r : Option T} {t : T} {R : T → Prop} (e : r = some t) (h : R t) : Wq r R := by rw [e]; exact h
theorem wq_ex {r : Option T} {P : T → Prop} (h : Wq r P) : ∃ t, r = some t ∧ P t := by
  cases r with
  | none => exact h.elim
  | some t => exact ⟨t, rfl, h⟩
section
variable {F G : Sf} {f g h : Dl → Rs} {u v w : Qf} {a b : Qb} {t s : Dl → Rb} {δ δ2 : Dl} {i : Nat} {op op' : Op} {fs : List Qf} {os : List Opd} {x y : T} {ts : List T} {gp : Gf} {gs : Gfs} {its : Il}
variable {N B C : Dl → Prop} {R : T → Dl → Prop} {E : Xn → Dl → Prop} {Q : T → Dl → Prop} {q : T → Prop} {QB : Bool → Dl → Prop} {qb : Bool → Prop} {QL : List T → Dl → Prop} {ql : List T → Prop} {QD : Dl → Prop}
/-! statements -/
theorem ws_seq (z : Ws (F δ) (fun δ' => Ws (G δ') N B C R E) B C R E) : Ws (sSeq F G δ) N B C R E := by
  unfold sSeq
  cases e : F δ with
  | none => rw [e] at z; exact z.elim
  | some p =>
    obtain ⟨fl, δ'⟩ := p
    rw [e] at z
    cases fl <;> exact z
theorem ws_next (z : N δ) : Ws (sNext δ) N B C R E := z
theorem ws_brk (z : B δ) : Ws (sBrk δ) N B C R E := z
theorem ws_cont (z : C δ) : Ws (sCont δ) N B C R E := z
theorem ws_set (z : We (f δ) (fun t δ' => Nm (δ'.set i (some t)) N) E) : Ws (sSet i f δ) N B C R E := by
  rw [ap_set]
  rcases we_c z with ⟨t0, d0, e0, z⟩ | ⟨t0, d0, e0, z⟩ <;> simp only [e0]
  · exact z
  · exact z
theorem ws_setN (z : We (f δ) (fun t δ' => Sd (i < δ'.length) (Nm (δ'.set i (some t)) N)) E) : Ws (sSetN i f δ) N B C R E := by
  rw [ap_setN]
  rcases we_c z with ⟨t0, d0, e0, z⟩ | ⟨t0, d0, e0, z⟩ <;> simp only [e0]
  · simp only [z.1, if_true]; exact z.2
  · exact z
theorem ws_drop (z : We (f δ) (fun t δ' => N δ') E) : Ws (sDrop f δ) N B C R E := by
  rw [ap_drop]
  rcases we_c z with ⟨t0, d0, e0, z⟩ | ⟨t0, d0, e0, z⟩ <;> simp only [e0]
  · exact z
  · exact z
theorem ws_ret (z : We (f δ) (fun t δ' => R t δ') E) : Ws (sRet f δ) N B C R E := by
  rw [ap_ret]
  rcases we_c z with ⟨t0, d0, e0, z⟩ | ⟨t0, d0, e0, z⟩ <;> simp only [e0]
  · exact z
  · exact z
theorem ws_retV (e : dAt δ i = some x) (z : Nm (δ.set i none) (R x)) : Ws (sRetV i δ) N B C R E := by
  rw [ap_retV, e]; exact z
theorem ws_retN (z : R .non δ) : Ws (sRetN δ) N B C R E := z
theorem ws_if (z : Wb (t δ) (fun c δ' => if c = true then Ws (F δ') N B C R E else Ws (G δ') N B C R E) E) : Ws (sIf t F G δ) N B C R E := by
  rw [ap_if]
  rcases wb_c z with ⟨t0, d0, e0, z⟩ | ⟨t0, d0, e0, z⟩ <;> simp only [e0]
  · cases t0 <;> exact z
  · exact z
theorem ws_for (z : Wi (its δ) (fun ts δ' => Ws (forM ts gp F δ') N B C R E) E) : Ws (sFor its gp F δ) N B C R E := by
  rw [ap_for]
  rcases wi_c z with ⟨t0, d0, e0, z⟩ | ⟨t0, d0, e0, z⟩ <;> simp only [e0]
  · exact z
  · exact z
theorem ws_setIx (z : We (f δ) (fun w δ' => Wq (u δ') fun k => Is k T.int fun n => At δ' i fun x => Is x T.lst fun us => So (setAt us n w) fun us' => Nm (δ'.set i (some (.lst us'))) N) E) : Ws (sSetIx i u f δ) N B C R E := by
  rw [ap_setIx]
  rcases we_c z with ⟨t0, d0, e0, z⟩ | ⟨t0, d0, e0, z⟩ <;> simp only [e0]
  · obtain ⟨k, e1, n, rfl, x, e2, us, rfl, us', e3, z⟩ := wq_ex z
    simp only [e1, e2, e3]; exact z
  · exact z
theorem ws_aug (e : dAt δ i = some x) (z : We (f δ) (fun y δ' => Wq (op [x, y]) fun c => Nm (δ'.set i (some c)) N) E) : Ws (sAug i op f δ) N B C R E := by
  rw [ap_aug, e]
  rcases we_c z with ⟨t0, d0, e0, z⟩ | ⟨t0, d0, e0, z⟩ <;> simp only [e0]
  · obtain ⟨c, e1, z⟩ := wq_ex z
    simp only [e1]; exact z
  · exact z
theorem ws_asg (z : We (f δ) (fun t δ' => Wd (gp t δ') N) E) : Ws (sAsg f gp δ) N B C R E := by
  rw [ap_asg]
  rcases we_c z with ⟨t0, d0, e0, z⟩ | ⟨t0, d0, e0, z⟩ <;> simp only [e0]
  ·
    obtain ⟨c0, e0, z⟩ := wd_ex z
    simp only [e0]; exact z
  · exact z
theorem ws_frz (e : dAt δ i = some x) (z : Ws (F δ) (fun δ' => Nm (δ'.set i none) N) (fun δ' => Nm (δ'.set i none) B) (fun δ' => Nm (δ'.set i none) C) (fun t δ' => Nm (δ'.set i none) (R t)) (fun x δ' => Nm (δ'.set i none) (E x))) : Ws (sFrz i F δ) N B C R E := by
  unfold Nm at z
  try dsimp only at z
  rw [ap_frz, e]
  unfold Ws at z
  split at z
  · exact z.elim
  · rename_i e; simp only [e]; exact z
  · rename_i e; simp only [e]; exact z
  · rename_i e; simp only [e]; exact z
  · rename_i e; simp only [e]; exact z
  · rename_i e; simp only [e]; exact z
theorem ws_raise {c fl : Str} (z : We (f δ) (fun t δ' => E ⟨c, fl, t⟩ δ') E) : Ws (sRaise c fl f δ) N B C R E := by
  unfold sRaise
  rcases we_c z with ⟨t0, d0, e0, z⟩ | ⟨t0, d0, e0, z⟩ <;> simp only [e0]
  · exact z
  · exact z
theorem ws_match {M : Mf} (z : We (f δ) (fun t δ' => Is t T.str fun k => Ws (M k δ') N B C R E) E) : Ws (sMatch f M δ) N B C R E := by
  unfold sMatch
  rcases we_c z with ⟨t0, d0, e0, z⟩ | ⟨t0, d0, e0, z⟩ <;> simp only [e0]
  · obtain ⟨k, rfl, z⟩ := z; exact z
  · exact z
theorem ws_mNil {k : Str} (z : N δ) : Ws (mNil k δ) N B C R E := z
theorem ws_mAny {k : Str} (z : Ws (F δ) N B C R E) : Ws (mAny F k δ) N B C R E := z
theorem ws_mCs {k : Str} {ks : List Str} {M : Mf} (z : if decide (k ∈ ks) = true then Ws (F δ) N B C R E else Ws (M k δ) N B C R E) : Ws (mCs ks F M k δ) N B C R E := by
  unfold mCs
  by_cases h : k ∈ ks
  · rw [if_pos h]; rw [decide_eq_true h, if_pos rfl] at z; exact z
  · rw [if_neg h]; rw [decide_eq_false h, if_neg Bool.false_ne_true] at z; exact z
theorem ws_mCg {k : Str} {ks : List Str} {M : Mf} (z : if decide (k ∈ ks) = true then Ws (sIf t F (M k) δ) N B C R E else Ws (M k δ) N B C R E) : Ws (mCg ks t F M k δ) N B C R E := by
  unfold mCg
  by_cases h : k ∈ ks
  · rw [if_pos h]; rw [decide_eq_true h, if_pos rfl] at z; exact z
  · rw [if_neg h]; rw [decide_eq_false h, if_neg Bool.false_ne_true] at z; exact z
theorem ws_tryAs {m : List (Str × Bool)} {fl : Str} {H : Xn → Sf} (z : Ws (F δ) N B C R fun e δ' => So (m.lookup e.cls) fun b => if b = true then Sd (e.fld = fl ∧ i < δ'.length) (Nm (δ'.set i (some e.val)) fun δ2 => Ws (H e δ2) (fun δ2 => Nm (δ2.set i none) N) (fun δ2 => Nm (δ2.set i none) B) (fun δ2 => Nm (δ2.set i none) C) (fun t δ2 => Nm (δ2.set i none) (R t)) fun _ _ => False) else E e δ') : Ws (sTryAs m fl i F H δ) N B C R E := by
  unfold sTryAs
  cases e : F δ with
  | none => rw [e] at z; exact z.elim
  | some p =>
    obtain ⟨fl, δ'⟩ := p
    rw [e] at z
    cases fl with
    | exc er =>
      obtain ⟨b, h1, z⟩ := z
      cases b with
      | true =>
        obtain ⟨h2, z⟩ := z
        simp only [h1, h2, if_true]
        unfold Nm at z
        try dsimp only at z
        cases e2 : H er (δ'.set i (some er.val)) with
        | none => rw [e2] at z; exact z.elim
        | some p =>
          obtain ⟨fl, δ2⟩ := p
          rw [e2] at z
          cases fl <;> first | exact z | exact z.elim
      | false => simp only [h1]; exact z
    | nx => exact z
    | brk => exact z
    | cont => exact z
    | ret _ => exact z
theorem ws_try {m : List (Str × Bool)} {H : Sf} (z : Ws (F δ) N B C R fun e δ' => So (m.lookup e.cls) fun b => if b = true then Ws (H δ') N B C R fun _ _ => False else E e δ') : Ws (sTry m F H δ) N B C R E := by
  unfold sTry
  cases e : F δ with
  | none => rw [e] at z; exact z.elim
  | some p =>
    obtain ⟨fl, δ'⟩ := p
    rw [e] at z
    cases fl with
    | exc er =>
      obtain ⟨b, h1, z⟩ := z
      cases b with
      | true =>
        simp only [h1]
        have z : Ws (H δ') N B C R fun _ _ => False := z
        cases e2 : H δ' with
        | none => rw [e2] at z; exact z.elim
        | some p =>
          obtain ⟨fl, δ2⟩ := p
          rw [e2] at z
          cases fl <;> first | exact z | exact z.elim
      | false => simp only [h1]; exact z
    | nx => exact z
    | brk => exact z
    | cont => exact z
    | ret _ => exact z
/-! loops -/
/-! expressions -/
theorem we_qE (z : Wq (u δ) fun t => Q t δ) : We (qE u δ) Q E := by
  rw [ap_qE]
  obtain ⟨c0, e0, z⟩ := wq_ex z
  simp only [e0]
  exact z
theorem we_opn (z : Wa os δ (fun ts δ' => Wq (op ts) fun c => Q c δ') E) : We (opn op os δ) Q E := by
  rw [ap_opn]
  rcases wa_c z with ⟨l0, d0, ts0, e1, e2, z⟩ | ⟨t0, d0, e1, z⟩ <;> simp only [e1]
  rotate_left
  · exact z
  · simp only [e2]
    obtain ⟨c, e3, z⟩ := wq_ex z
    simp only [e3]; exact z
theorem we_opnc (z : Wa os δ (fun ts δ' => Wq (op ts) fun c => Q c δ') fun _ _ => False) : We (opnc op os δ) Q E := by
  rw [ap_opnc]
  rcases wa_c z with ⟨l0, d0, ts0, e1, e2, z⟩ | ⟨t0, d0, e1, z⟩ <;> simp only [e1]
  rotate_left
  · exact z.elim
  · simp only [e2]
    obtain ⟨c, e3, z⟩ := wq_ex z
    simp only [e3]; exact z
theorem we_disp {ks : List Key} (z : We (opn (dispT ks) os δ) Q E) : We (fDisp ks os δ) Q E := z
theorem we_call {ps : List Sh} {Ff : List T → Fo} (z : Wa os δ (fun ts δ' => Wf (Ff ts) (fun t l => Sd (l.length = ps.length) (Nm (wb ps (skO os) l δ') (Q t))) fun e l => Sd (l.length = ps.length) (Nm (wb ps (skO os) l δ') (E e))) E) : We (fCall ps Ff os δ) Q E := by
  rw [ap_call]
  rcases wa_c z with ⟨l0, d0, ts0, e1, e2, z⟩ | ⟨t0, d0, e1, z⟩
  · simp only [e1, e2]
    rcases wf_or z with ⟨t, l, e3, h, z⟩ | ⟨t, l, e3, h, z⟩
    · simp only [e3, h, if_true]; exact z
    · simp only [e3, h, if_true]; exact z
  · simp only [e1]; exact z
theorem we_app (z : At δ i fun x => Is x T.lst fun us0 => We (f δ) (fun t δ' => At δ' i fun x => Is x T.lst fun us => Sd (us.length < sizeLine) (Nm (δ'.set i (some (.lst (us ++ [t])))) (Q .non))) E) : We (fApp i f δ) Q E := by
  obtain ⟨_, e0, us0, rfl, z⟩ := z
  rw [ap_app, e0]
  rcases we_c z with ⟨t0, d0, e0, z⟩ | ⟨t0, d0, e0, z⟩ <;> simp only [e0]
  · obtain ⟨_, e1, us, rfl, h, z⟩ := z
    simp only [e1, h, if_true]; exact z
  · exact z
theorem we_if (z : Wb (t δ) (fun c δ' => if c = true then We (f δ') Q E else We (g δ') Q E) E) : We (ifE t f g δ) Q E := by
  rw [ap_ifE]
  rcases wb_c z with ⟨t0, d0, e0, z⟩ | ⟨t0, d0, e0, z⟩ <;> simp only [e0]
  · cases t0 <;> exact z
  · exact z
theorem we_andW (z : We (f δ) (fun t δ' => Wt (truW t) fun c => if c = true then We (g δ') Q E else Q t δ') E) : We (andW f g δ) Q E := by
  rw [ap_andW]
  rcases we_c z with ⟨t0, d0, e0, z⟩ | ⟨t0, d0, e0, z⟩ <;> simp only [e0]
  ·
    obtain ⟨c0, e0, z⟩ := wt_ex z
    simp only [e0]
    cases c0 <;> exact z
  · exact z
theorem we_orW (z : We (f δ) (fun t δ' => Wt (truW t) fun c => if c = true then Q t δ' else We (g δ') Q E) E) : We (orW f g δ) Q E := by
  rw [ap_orW]
  rcases we_c z with ⟨t0, d0, e0, z⟩ | ⟨t0, d0, e0, z⟩ <;> simp only [e0]
  ·
    obtain ⟨c0, e0, z⟩ := wt_ex z
    simp only [e0]
    cases c0 <;> exact z
  · exact z
theorem we_lc {vs : List Nat} (z : Wi (its δ) (fun ts δ' => Sd (ts.length < sizeLine) (Nm (wipeD δ' vs) fun δ3 => S2 (lcL gp t f vs ts δ3) fun us δ2 => Q (.lst us) δ2)) E) : We (lcE its gp t f vs δ) Q E := by
  rw [ap_lcE]
  rcases wi_c z with ⟨t0, d0, e0, z⟩ | ⟨t0, d0, e0, z⟩ <;> simp only [e0]
  · obtain ⟨h, us, δ2, e, z⟩ := z
    simp only [h, if_true, e]; exact z
  · exact z
/-! operands -/
theorem wa_nil (z : QL [] δ) : Wa [] δ QL E := z
theorem wa_val (z : We (f δ) (fun t δ1 => Wa os δ1 (fun us δ' => QL (t :: us) δ') E) E) : Wa (.val f :: os) δ QL E := by
  unfold Wa
  rw [rnE]
  rcases we_c z with ⟨t0, d0, e0, z⟩ | ⟨t0, d0, e0, z⟩
  · simp only [e0]
    rcases wa_c z with ⟨l0, d1, ts0, e1, e2, z⟩ | ⟨x0, d1, e1, z⟩
    · simp only [e1, rsE, e2]; exact z
    · simp only [e1]; exact z
  · simp only [e0]; exact z
theorem wa_var (e : dAt δ i = some x) (z : Wa os δ (fun us δ' => At δ' i fun y => QL (y :: us) δ') E) : Wa (.var i :: os) δ QL E := by
  unfold Wa
  rw [rnV, e]
  rcases wa_c z with ⟨l0, d1, ts0, e1, e2, y, e3, z⟩ | ⟨x0, d1, e1, z⟩
  · simp only [e1, rsV, e2, e3]; exact z
  · simp only [e1]; exact z
theorem wl_nil (z : ql []) : Wl (evq [] δ) ql := z
theorem wl_cons (z : Wq (u δ) fun t => Wl (evq fs δ) fun us => ql (t :: us)) : Wl (evq (u :: fs) δ) ql := by
  rw [evS]
  obtain ⟨c0, e0, z⟩ := wq_ex z
  obtain ⟨c1, e1, z⟩ := wl_ex z
  simp only [e0, e1]; exact z
/-! quiet ones -/
theorem wq_opq (z : Wl (evq fs δ) fun ts => Wq (op ts) q) : Wq (opq op fs δ) q := by
  rw [ap_opq]
  obtain ⟨c0, e0, z⟩ := wl_ex z
  simp only [e0]
  exact z
theorem wq_eV (e : dAt δ i = some x) (z : q x) : Wq (eV i δ) q := by rw [ap_eV, e]; exact z
theorem wq_eC (z : q x) : Wq (eC x δ) q := z
theorem wq_eP {π : List Pt} (e : dAt δ i = some x) (e2 : getP x π = some y) (z : q y) : Wq (eP i π δ) q := by unfold eP; rw [e]; simp only [e2]; exact z
theorem wq_if (z : Wt (a δ) fun c => if c = true then Wq (u δ) q else Wq (v δ) q) : Wq (ifQ a u v δ) q := by
  rw [ap_ifQ]
  obtain ⟨c0, e0, z⟩ := wt_ex z
  simp only [e0]
  cases c0 <;> exact z
theorem wq_andV (z : Wq (u δ) fun t => Wt (truW t) fun c => if c = true then Wq (v δ) q else q t) : Wq (andV u v δ) q := by
  rw [ap_andV]
  obtain ⟨c0, e0, z⟩ := wq_ex z
  obtain ⟨c1, e1, z⟩ := wt_ex z
  simp only [e0, e1]
  cases c1 <;> exact z
theorem wq_orV (z : Wq (u δ) fun t => Wt (truW t) fun c => if c = true then q t else Wq (v δ) q) : Wq (orV u v δ) q := by
  rw [ap_orV]
  obtain ⟨c0, e0, z⟩ := wq_ex z
  obtain ⟨c1, e1, z⟩ := wt_ex z
  simp only [e0, e1]
  cases c1 <;> exact z
theorem wq_ch (z : Wq (u δ) fun x => Wq (v δ) fun y => Wq (op [x, y]) fun c => Is c T.bl fun k => if k = true then Wq (w δ) (fun z => Wq (op' [y, z]) q) else q (.bl false)) : Wq (chQ op op' u v w δ) q := by
  rw [ap_chQ]
  obtain ⟨x, e1, z⟩ := wq_ex z
  obtain ⟨y, e2, z⟩ := wq_ex z
  obtain ⟨c, e3, z⟩ := wq_ex z
  obtain ⟨k, rfl, z⟩ := z
  simp only [e1, e2, e3]
  cases k
  · exact z
  · rw [if_pos rfl] at z
    obtain ⟨r, e4, z⟩ := wq_ex z
    simp only [e4]; exact z
/-! tests -/
theorem wt_asB (z : Wq (u δ) fun t => Is t T.bl qb) : Wt (asB u δ) qb := by
  rw [ap_asB]
  obtain ⟨x, e1, c, rfl, z⟩ := wq_ex z
  simp only [e1]; exact z
theorem wt_asTru (z : Wq (u δ) fun t => Wt (truT t) qb) : Wt (asTru u δ) qb := by
  rw [ap_asTru]
  obtain ⟨x, e1, z⟩ := wq_ex z
  simp only [e1]; exact z
theorem wb_asBE (z : We (f δ) (fun t δ' => Is t T.bl fun c => QB c δ') E) : Wb (asBE f δ) QB E := by
  rw [ap_asBE]
  rcases we_c z with ⟨t0, d0, e0, z⟩ | ⟨t0, d0, e0, z⟩ <;> simp only [e0]
  · obtain ⟨c, rfl, z⟩ := z; exact z
  · exact z
theorem wb_asTruE (z : We (f δ) (fun t δ' => Wt (truT t) fun c => QB c δ') E) : Wb (asTruE f δ) QB E := by
  rw [ap_asTruE]
  rcases we_c z with ⟨t0, d0, e0, z⟩ | ⟨t0, d0, e0, z⟩ <;> simp only [e0]
  ·
    obtain ⟨c0, e0, z⟩ := wt_ex z
    simp only [e0]; exact z
  · exact z
theorem wb_qB (z : Wt (a δ) fun c => QB c δ) : Wb (qB a δ) QB E := by
  rw [ap_qB]
  obtain ⟨c0, e0, z⟩ := wt_ex z
  simp only [e0]
  exact z
theorem wb_yes (z : QB true δ) : Wb (yesB δ) QB E := z
theorem wt_not (z : Wt (a δ) fun c => qb (!c)) : Wt (notQ a δ) qb := by
  rw [ap_notQ]
  obtain ⟨c0, e0, z⟩ := wt_ex z
  simp only [e0]
  exact z
theorem wt_and (z : Wt (a δ) fun c => if c = true then Wt (b δ) qb else qb false) : Wt (andQ a b δ) qb := by
  rw [ap_andQ]
  obtain ⟨c0, e0, z⟩ := wt_ex z
  simp only [e0]
  cases c0 <;> exact z
theorem wt_or (z : Wt (a δ) fun c => if c = true then qb true else Wt (b δ) qb) : Wt (orQ a b δ) qb := by
  rw [ap_orQ]
  obtain ⟨c0, e0, z⟩ := wt_ex z
  simp only [e0]
  cases c0 <;> exact z
theorem wb_not (z : Wb (t δ) (fun c δ' => QB (!c) δ') E) : Wb (notE t δ) QB E := by
  rw [ap_notE]
  rcases wb_c z with ⟨t0, d0, e0, z⟩ | ⟨t0, d0, e0, z⟩ <;> simp only [e0]
  · exact z
  · exact z
theorem wb_and (z : Wb (t δ) (fun c δ' => if c = true then Wb (s δ') QB E else QB false δ') E) : Wb (andE t s δ) QB E := by
  rw [ap_andE]
  rcases wb_c z with ⟨t0, d0, e0, z⟩ | ⟨t0, d0, e0, z⟩ <;> simp only [e0]
  · cases t0 <;> exact z
  · exact z
theorem wb_or (z : Wb (t δ) (fun c δ' => if c = true then QB true δ' else Wb (s δ') QB E) E) : Wb (orE t s δ) QB E := by
  rw [ap_orE]
  rcases wb_c z with ⟨t0, d0, e0, z⟩ | ⟨t0, d0, e0, z⟩ <;> simp only [e0]
  · cases t0 <;> exact z
  · exact z
/-! targets, what is walked over -/
theorem wd_gN (z : Nm (δ.set i (some x)) QD) : Wd (gN i x δ) QD := z
theorem wd_gT (e : seqT x = some ts) (z : Wd (gs ts δ) QD) : Wd (gT gs x δ) QD := by rw [ap_gT, e]; exact z
theorem wd_nil (z : QD δ) : Wd (gNl [] δ) QD := z
theorem wd_cons (z : Wd (gp x δ) fun δ' => Wd (gs ts δ') QD) : Wd (gCs gp gs (x :: ts) δ) QD := by
  rw [ap_gCs]
  obtain ⟨c0, e0, z⟩ := wd_ex z
  simp only [e0]; exact z
theorem wi_it (z : We (f δ) (fun t δ' => So (itT t) fun ts => QL ts δ') E) : Wi (itE f δ) QL E := by
  rw [ap_itE]
  rcases we_c z with ⟨t0, d0, e0, z⟩ | ⟨t0, d0, e0, z⟩ <;> simp only [e0]
  · obtain ⟨us, e, z⟩ := z; simp only [e]; exact z
  · exact z
theorem wi_r1 (z : We (f δ) (fun t δ' => Is t T.int fun j => Sd (-4611686018427387904 ≤ j ∧ j < 4611686018427387904) (QL ((List.range j.toNat).map fun i => T.int (i : Nat)) δ')) E) : Wi (itR1 f δ) QL E := by
  rw [ap_itR1]
  rcases we_c z with ⟨t0, d0, e0, z⟩ | ⟨t0, d0, e0, z⟩ <;> simp only [e0]
  · obtain ⟨j, rfl, h, z⟩ := z
    have h' : -(2 ^ 62) ≤ j ∧ j < 2 ^ 62 := h
    simp only [if_pos h', Int.zero_add]; exact z
  · exact z
theorem wi_r2 (z : We (f δ) (fun t δ1 => Is t T.int fun i => We (g δ1) (fun t δ' => Is t T.int fun j => Sd (-4611686018427387904 ≤ i ∧ i < 4611686018427387904 ∧ -4611686018427387904 ≤ j ∧ j < 4611686018427387904) (QL ((List.range (j - i).toNat).map fun n => T.int (i + (n : Nat))) δ')) E) E) : Wi (itR2 f g δ) QL E := by
  rw [ap_itR2]
  rcases we_c z with ⟨t0, d0, e0, z⟩ | ⟨t0, d0, e0, z⟩ <;> simp only [e0]
  · obtain ⟨i, rfl, z⟩ := z
    simp only
    rcases we_c z with ⟨t1, d1, e1, j, rfl, h, z⟩ | ⟨t1, d1, e1, z⟩
    · have h' : -(2 ^ 62) ≤ i ∧ i < 2 ^ 62 ∧ -(2 ^ 62) ≤ j ∧ j < 2 ^ 62 := h
      simp only [e1, if_pos h']; exact z
    · simp only [e1]; exact z
  · exact z
theorem wi_en (z : We (f δ) (fun t δ' => Is t T.lst fun ts => QL (enT ts) δ') E) : Wi (itEn f δ) QL E := by
  rw [ap_itEn]
  rcases we_c z with ⟨t0, d0, e0, z⟩ | ⟨t0, d0, e0, z⟩ <;> simp only [e0]
  · obtain ⟨us, rfl, z⟩ := z; exact z
  · exact z
/-! a def -/
theorem wf_fn {ps : List Sh} {m : Nat} {rs : Sh} {RR : T → List T → Prop} {EE : Xn → List T → Prop} (z : Nm (ts.map some ++ List.replicate m none) fun δ => Ws (F δ) (fun δ => Sd (rs.nilOk = true) (Fn ps ts δ (RR .non))) (fun _ => False) (fun _ => False) (fun t δ => Fn ps ts δ (RR t)) (fun e δ => Fn ps ts δ (EE e))) : Wf (fnT ps m rs F ts) RR EE := by
  unfold Nm at z
  try dsimp only at z
  rw [ap_fn]; unfold Ws at z
  split at z
  · exact z.elim
  · rename_i e
    obtain ⟨h, l, e2, z⟩ := z
    simp only [e, h, if_true, e2]; exact z
  · exact z.elim
  · exact z.elim
  · rename_i e
    obtain ⟨l, e2, z⟩ := z
    simp only [e, e2]; exact z
  · rename_i e
    obtain ⟨l, e2, z⟩ := z
    simp only [e, e2]; exact z
theorem fin_o {s : Sh} {ss : List Sh} {l : List T} {y : T} (e : fin ss ts δ = some l) (h : s.isO = true := by rfl) : fin (s :: ss) (x :: ts) (some y :: δ) = some (y :: l) := by rw [finS, e]; simp only [h, if_true]
theorem fin_f {s : Sh} {ss : List Sh} {d : Option T} {l : List T} (e : fin ss ts δ = some l) (h : s.isO = false := by rfl) : fin (s :: ss) (x :: ts) (d :: δ) = some (x :: l) := by rw [finS, e]; simp only [h, Bool.false_eq_true, if_false]
end
end NQ
namespace NQ
open PySem L2
/-! ### the operations, wished for -/
section
variable {q : T → Prop} {qb : Bool → Prop} {a b : Str} {i j n : Int} {xs ys ts : List T} {x y c : T} {k : Bool} {f : Int → Int → Bool} {op op' : Op}
theorem wo_addi (z : q (.int (i + j))) : Wq (addR [.int i, .int j]) q := z
theorem wo_adds (h : a.length + b.length ≤ 16777216) (z : q (.str (a ++ b))) : Wq (addR [.str a, .str b]) q := by rw [o_adds, if_pos (by rw [sz_eq]; exact h)]; exact z
theorem wo_addAi (z : q (.int (i + j))) : Wq (addA [.int i, .int j]) q := z
theorem wo_addAs (h : a.length + b.length ≤ 16777216) (z : q (.str (a ++ b))) : Wq (addA [.str a, .str b]) q := by rw [o_addAs (by rw [sz_eq]; exact h)]; exact z
theorem wo_addL (h : xs.length + ys.length ≤ 16777216) (z : q (.lst (xs ++ ys))) : Wq (addL [.lst xs, .lst ys]) q := by rw [o_addL, if_pos (by rw [sz_eq]; exact h)]; exact z
theorem wo_addAl (h : xs.length + ys.length ≤ 16777216) (z : q (.lst (xs ++ ys))) : Wq (addA [.lst xs, .lst ys]) q := by rw [o_addAl, if_pos (by rw [sz_eq]; exact h)]; exact z
theorem wo_addI (z : q (.int (i + j))) : Wq (addI [.int i, .int j]) q := z
theorem wo_subI (z : q (.int (i - j))) : Wq (subI [.int i, .int j]) q := z
theorem wo_subi (z : q (.int (i - j))) : Wq (subT [.int i, .int j]) q := z
theorem wo_muliL (h1 : -18446744073709551616 < i) (h2 : i < 18446744073709551616) (z : q (.int (i * j))) : Wq (mulR [.int i, .int j]) q := by rw [o_muli, if_pos (.inl ⟨h1, h2⟩)]; exact z
theorem wo_muliR (h1 : -18446744073709551616 < j) (h2 : j < 18446744073709551616) (z : q (.int (i * j))) : Wq (mulR [.int i, .int j]) q := by rw [o_muli, if_pos (.inr (.inl ⟨h1, h2⟩))]; exact z
theorem wo_mulAL (h1 : -18446744073709551616 < i) (h2 : i < 18446744073709551616) (z : q (.int (i * j))) : Wq (mulA [.int i, .int j]) q := by rw [o_mulAi (.inl ⟨h1, h2⟩)]; exact z
theorem wo_mulAR (h1 : -18446744073709551616 < j) (h2 : j < 18446744073709551616) (z : q (.int (i * j))) : Wq (mulA [.int i, .int j]) q := by rw [o_mulAi (.inr (.inl ⟨h1, h2⟩))]; exact z
theorem wo_muls (h1 : -1048576 < n ∧ n < 1048576 ∧ a.length * n.toNat ≤ 1000000) (z : q (.str (Txt.mul a n))) : Wq (mulR [.str a, .int n]) q := by
  have h1' : -(2 ^ 20) < n ∧ n < 2 ^ 20 ∧ a.length * n.toNat ≤ 1000000 := h1
  rw [o_muls, if_pos h1']; exact z
theorem wo_mulL (h1 : -9223372036854775808 ≤ n ∧ n < 9223372036854775808 ∧ xs.length * n.toNat ≤ 16777216) (z : q (.lst (List.replicate n.toNat xs).flatten)) : Wq (mulL [.lst xs, .int n]) q := by
  have h1' : -(2 ^ 63) ≤ n ∧ n < 2 ^ 63 ∧ xs.length * n.toNat ≤ sizeLine := h1
  rw [o_mulL, if_pos h1']; exact z
theorem wo_mulAl (h1 : -9223372036854775808 ≤ n ∧ n < 9223372036854775808 ∧ xs.length * n.toNat ≤ 16777216) (z : q (.lst (List.replicate n.toNat xs).flatten)) : Wq (mulA [.lst xs, .int n]) q := by
  have h1' : -(2 ^ 63) ≤ n ∧ n < 2 ^ 63 ∧ xs.length * n.toNat ≤ sizeLine := h1
  rw [o_mulAl, if_pos h1']; exact z
theorem wo_modi (h : 0 < j) (z : q (.int (i % j))) : Wq (modT [.int i, .int j]) q := by rw [o_modi, if_pos h]; exact z
theorem wo_divi (h0 : 0 < j) (h1 : j < 1000000000000) (z : q (.int (i / j))) : Wq (divT [.int i, .int j]) q := by rw [o_divs h0 h1]; exact z
theorem wo_powi (h0 : 0 ≤ j) (h1 : j ≤ 1000000) (h2 : -18446744073709551616 < i) (h3 : i < 18446744073709551616) (z : q (.int (i ^ j.toNat))) : Wq (powT [.int i, .int j]) q := by rw [o_pows h0 h1 h2 h3]; exact z
theorem wo_cmp (z : q (.bl (f i j))) : Wq (cmpT f [.int i, .int j]) q := z
theorem wo_neg (z : q (.int (-i))) : Wq (negT [.int i]) q := z
theorem wo_eq (e : eqB x y = some k) (z : q (.bl k)) : Wq (eqT [x, y]) q := by rw [o_eq, e]; exact z
theorem wo_ne (e : eqB x y = some k) (z : q (.bl (!k))) : Wq (neT [x, y]) q := by rw [o_ne, e]; exact z
theorem wo_isN (z : q (.bl x.isN)) : Wq (isNT [x, .non]) q := z
theorem wo_notN (z : q (.bl (!x.isN))) : Wq (notNT [x, .non]) q := z
theorem wo_in (e : memB x y = some k) (z : q (.bl k)) : Wq (inA [x, y]) q := by rw [o_in e]; exact z
theorem wo_nin (e : memB x y = some k) (z : q (.bl (!k))) : Wq (ninA [x, y]) q := by rw [o_nin e]; exact z
theorem wo_len_l (z : q (.int xs.length)) : Wq (lenT [.lst xs]) q := z
theorem wo_len_t (z : q (.int xs.length)) : Wq (lenT [.tup xs]) q := z
theorem wo_len_c (z : q (.int xs.length)) : Wq (lenT [.ctup xs]) q := z
theorem wo_len_s (h : a.length ≤ 16777216) (z : q (.int a.length)) : Wq (lenT [.str a]) q := by rw [o_len_s, if_pos (by rw [sz_eq]; exact h)]; exact z
theorem wo_int_i (z : q (.int i)) : Wq (intT [.int i]) q := z
theorem wo_int_b (z : q (.int (if k then 1 else 0))) : Wq (intT [.bl k]) q := z
theorem wo_str_s (z : q (.str a)) : Wq (strT [.str a]) q := z
theorem wo_abs (z : q (.int (if i < 0 then -i else i))) : Wq (absT [.int i]) q := z
theorem wo_max (z : q (.int (if j > i then j else i))) : Wq (maxT [.int i, .int j]) q := z
theorem wo_min (z : q (.int (if j < i then j else i))) : Wq (minT [.int i, .int j]) q := z
theorem wo_list_l (z : q (.lst xs)) : Wq (listA [.lst xs]) q := z
theorem wo_list_t (z : q (.lst xs)) : Wq (listA [.tup xs]) q := z
theorem wo_list_c (z : q (.lst xs)) : Wq (listA [.ctup xs]) q := z
theorem wo_list_s (h : a.length ≤ 16777216) (z : q (.lst ((NL.sgn a).map T.str))) : Wq (listA [.str a]) q := by rw [o_list_s, if_pos (by rw [sz_eq]; exact h)]; exact z
theorem wo_tuple (z : q (.tup xs)) : Wq (tupleL [.lst xs]) q := z
theorem wo_lst (h : ts.length ≤ 16777216) (z : q (.lst ts)) : Wq (lstT ts) q := by rw [o_lst, if_pos (by rw [sz_eq]; exact h)]; exact z
theorem wo_tup (h : ts.length ≤ 16777216) (z : q (.tup ts)) : Wq (tupT ts) q := by rw [o_tup, if_pos (by rw [sz_eq]; exact h)]; exact z
theorem wo_disp {ks : List Key} (h1 : ks.Nodup) (h2 : ks.length = ts.length) (h3 : ks.length ≤ 15) (z : q (.dic ks ts)) : Wq (dispT ks ts) q := by rw [o_disp, if_pos ⟨h1, h2, h3⟩]; exact z
theorem wo_split (h1 : (b.length == 0) = false) (h2 : a.length ≤ 16777214) (z : q (.lst ((Txt.split a b).map T.str))) : Wq (splitT [.str a, .str b]) q := by rw [o_split, if_pos ⟨h1, by rw [sz_eq]; omega⟩]; exact z
theorem wo_words (h2 : a.length ≤ 16777214) (z : q (.lst ((Txt.words a).map T.str))) : Wq (wordsT [.str a]) q := by rw [o_words, if_pos (by rw [sz_eq]; omega)]; exact z
theorem wo_strip (h2 : a.length ≤ 16777216) (z : q (.str (Txt.strip a))) : Wq (stripT [.str a]) q := by rw [o_strip, if_pos (by rw [sz_eq]; exact h2)]; exact z
theorem wo_join {l : List Str} (e : ts = l.map T.str) (h : (l.map (·.length)).sum + l.length * a.length ≤ 16777216) (z : q (.str (Txt.join a l))) : Wq (joinT [.str a, .lst ts]) q := by subst e; rw [o_join, if_pos h]; exact z
theorem wo_slS1 (h : a.length ≤ 16777216) (z : q (.str (cutS a (some i) none))) : Wq (slS true false [.str a, .int i]) q := by rw [o_slS1, if_pos (by rw [sz_eq]; exact h)]; exact z
theorem wo_slS2 (h : a.length ≤ 16777216) (z : q (.str (cutS a none (some i)))) : Wq (slS false true [.str a, .int i]) q := by rw [o_slS2, if_pos (by rw [sz_eq]; exact h)]; exact z
theorem wo_slS3 (h : a.length ≤ 16777216) (z : q (.str (cutS a (some i) (some j)))) : Wq (slS true true [.str a, .int i, .int j]) q := by rw [o_slS3, if_pos (by rw [sz_eq]; exact h)]; exact z
theorem wo_slL1 (z : q (.lst (cutT xs (some i) none))) : Wq (slL true false [.lst xs, .int i]) q := z
theorem wo_slL2 (z : q (.lst (cutT xs none (some i)))) : Wq (slL false true [.lst xs, .int i]) q := z
theorem wo_slL3 (z : q (.lst (cutT xs (some i) (some j)))) : Wq (slL true true [.lst xs, .int i, .int j]) q := z
theorem wo_ixR_l (e : atI xs i = some x) (h : x.isS = true) (z : q x) : Wq (ixRA [.lst xs, .int i]) q := by rw [o_ixR_l, e]; simp only [h, if_true]; exact z
theorem wo_ixR_t (e : atI xs i = some x) (h : x.isS = true) (z : q x) : Wq (ixRA [.tup xs, .int i]) q := by rw [o_ixR_t, e]; simp only [h, if_true]; exact z
theorem wo_ix_l (e : atI xs i = some x) (z : q x) : Wq (ixA [.lst xs, .int i]) q := by rw [o_ix_l, e]; exact z
theorem wo_ix_t (e : atI xs i = some x) (z : q x) : Wq (ixA [.tup xs, .int i]) q := by rw [o_ix_t, e]; exact z
theorem wo_ix_s {c : Nat} (e : atI a.cps.toList i = some c) (h : a.length ≤ 16777216) (z : q (.str ⟨#[c]⟩)) : Wq (ixA [.str a, .int i]) q := by rw [o_ix_s, if_pos (by rw [sz_eq]; exact h), e]; exact z
theorem wo_ix_d {ks : List Key} {kk : Key} (h : x.key = some kk) (e : lookT ks xs kk = some y) (z : q y) : Wq (ixA [.dic ks xs, x]) q := by rw [o_ix_d h, e]; exact z
theorem wo_isi {m p : String} (h : x.tyn = some m) (h2 : subB m p = some k) (z : q (.bl k)) : Wq (isiT [x, .ty p]) q := by rw [o_isi h h2]; exact z
theorem wt_b (z : qb k) : Wt (truT (.bl k)) qb := z
theorem wt_i (z : qb (i != 0)) : Wt (truT (.int i)) qb := z
theorem wt_l (z : qb (!xs.isEmpty)) : Wt (truT (.lst xs)) qb := z
theorem wt_n (z : qb false) : Wt (truT .non) qb := z
theorem wt_s (h : a.length ≤ 16777216) (z : qb ((a.length : Int) != 0)) : Wt (truT (.str a)) qb := by rw [tru_s, if_pos (by rw [sz_eq]; exact h)]; exact z
theorem wtw_b (z : qb k) : Wt (truW (.bl k)) qb := z
theorem wtw_n (z : qb false) : Wt (truW .non) qb := z
theorem wtw_i (z : qb (i != 0)) : Wt (truW (.int i)) qb := z
theorem wtw_l (z : qb (!xs.isEmpty)) : Wt (truW (.lst xs)) qb := z
/-! equality of scalars -/
theorem eqB_ii : eqB (.int i) (.int j) = some (decide (i = j)) := by
  unfold eqB
  simp only [T.pd]
  by_cases h : i = j <;> simp [PyData.depth, PyData.eqv, h]
theorem eqB_ss : eqB (.str a) (.str b) = some (decide (a = b)) := by
  unfold eqB
  simp only [T.pd]
  by_cases h : a = b <;> simp [PyData.depth, PyData.eqv, h]
theorem ite_t {A B : Prop} {k : Bool} (e : k = true) (z : A) : if k = true then A else B := by rw [if_pos e]; exact z
theorem ite_f {A B : Prop} {k : Bool} (e : k = false) (z : B) : if k = true then A else B := by rw [if_neg (by rw [e]; exact Bool.false_ne_true)]; exact z
end
end NQ
namespace NQ
open PySem L2
/-! ### equality of plain data: no truth values, no written tuples -/
def T.pl : Nat → T → Bool
  | _, .non => true
  | _, .int _ => true
  | _, .str _ => true
  | n + 1, .lst ts => ts.all (T.pl n)
  | n + 1, .tup ts => ts.all (T.pl n)
  | _, _ => false
theorem pd_lst {ts : List T} {ds : List PyData} (h : pdL ts = some ds) : (T.lst ts).pd = some (.list ds) := by
  show (match pdL ts with | some ds => some (PyData.list ds) | none => none) = _
  rw [h]
theorem pd_tup {ts : List T} {ds : List PyData} (h : pdL ts = some ds) : (T.tup ts).pd = some (.tuple ds) := by
  show (match pdL ts with | some ds => some (PyData.tuple ds) | none => none) = _
  rw [h]
theorem pl_pds {n : Nat} (ih : ∀ {x : T}, T.pl n x = true → ∃ d, x.pd = some d ∧ d.depth ≤ n + 1) : ∀ {ts : List T}, ts.all (T.pl n) = true → ∃ ds, pdL ts = some ds ∧ PyData.depthAll ds ≤ n + 1
  | [], _ => ⟨[], rfl, Nat.zero_le _⟩
  | t :: r, h => by
    rw [List.all_cons, Bool.and_eq_true] at h
    obtain ⟨d, h1, h2⟩ := ih h.1
    obtain ⟨ds, h3, h4⟩ := pl_pds ih h.2
    refine ⟨d :: ds, by show (match t.pd, pdL r with | some d, some ds => some (d :: ds) | _, _ => none) = _; rw [h1, h3], ?_⟩
    simp only [PyData.depthAll]
    omega
theorem pl_pd : ∀ {n : Nat} {x : T}, T.pl n x = true → ∃ d, x.pd = some d ∧ d.depth ≤ n + 1
  | n, .non, _ => ⟨.none, rfl, by simp [PyData.depth]⟩
  | n, .int i, _ => ⟨.int i, rfl, by simp [PyData.depth]⟩
  | n, .str s, _ => ⟨.str s, rfl, by simp [PyData.depth]⟩
  | n + 1, .lst ts, e => by
    obtain ⟨ds, h1, h2⟩ := pl_pds (n := n) (fun h => pl_pd h) (ts := ts) e
    exact ⟨.list ds, pd_lst h1, by simp only [PyData.depth]; omega⟩
  | n + 1, .tup ts, e => by
    obtain ⟨ds, h1, h2⟩ := pl_pds (n := n) (fun h => pl_pd h) (ts := ts) e
    exact ⟨.tuple ds, pd_tup h1, by simp only [PyData.depth]; omega⟩
  | 0, .lst _, e => by cases e
  | 0, .tup _, e => by cases e
  | n, .bl _, e => by cases n <;> cases e
  | n, .ctup _, e => by cases n <;> cases e
  | n, .clst _, e => by cases n <;> cases e
  | n, .dic _ _, e => by cases n <;> cases e
  | n, .dit _ _, e => by cases n <;> cases e
  | n, .ins _ _ _, e => by cases n <;> cases e
  | n, .gl _, e => by cases n <;> cases e
  | n, .ty _, e => by cases n <;> cases e
theorem pl_kinds {n : Nat} {x : T} (h : T.pl n x = true) : x = .non ∨ (∃ i, x = .int i) ∨ (∃ s, x = .str s) ∨ (∃ m ts, n = m + 1 ∧ x = .lst ts ∧ ts.all (T.pl m) = true) ∨ ∃ m ts, n = m + 1 ∧ x = .tup ts ∧ ts.all (T.pl m) = true := by
  cases x with
  | non => exact .inl rfl
  | int i => exact .inr (.inl ⟨i, rfl⟩)
  | str s => exact .inr (.inr (.inl ⟨s, rfl⟩))
  | lst ts =>
    cases n with
    | zero => cases h
    | succ m => exact .inr (.inr (.inr (.inl ⟨m, ts, rfl, rfl, h⟩)))
  | tup ts =>
    cases n with
    | zero => cases h
    | succ m => exact .inr (.inr (.inr (.inr ⟨m, ts, rfl, rfl, h⟩)))
  | _ => cases n <;> cases h
theorem pdL_cons {t : T} {r : List T} {ds : List PyData} (h : pdL (t :: r) = some ds) : ∃ d ds', t.pd = some d ∧ pdL r = some ds' ∧ ds = d :: ds' := by
  have h : (match t.pd, pdL r with | some d, some ds => some (d :: ds) | _, _ => none) = some ds := h
  split at h
  · cases h; rename_i h1 h2; exact ⟨_, _, h1, h2, rfl⟩
  · cases h
theorem pds_eqv {n : Nat} (ih : ∀ {x y : T} {d e : PyData}, T.pl n x = true → T.pl n y = true → x.pd = some d → y.pd = some e → (PyData.eqv d e = true ↔ x = y)) : ∀ {ts us : List T} {ds es : List PyData}, ts.all (T.pl n) = true → us.all (T.pl n) = true → pdL ts = some ds → pdL us = some es → (PyData.eqvAll ds es = true ↔ ts = us)
  | [], [], ds, es, _, _, h1, h2 => by cases h1; cases h2; simp [PyData.eqvAll]
  | [], u :: us, ds, es, _, _, h1, h2 => by
    obtain ⟨d, ds', _, _, rfl⟩ := pdL_cons h2
    cases h1
    simp [PyData.eqvAll]
  | t :: ts, [], ds, es, _, _, h1, h2 => by
    obtain ⟨d, ds', _, _, rfl⟩ := pdL_cons h1
    cases h2
    simp [PyData.eqvAll]
  | t :: ts, u :: us, ds, es, p1, p2, h1, h2 => by
    rw [List.all_cons, Bool.and_eq_true] at p1 p2
    obtain ⟨d, ds', a1, a2, rfl⟩ := pdL_cons h1
    obtain ⟨e, es', b1, b2, rfl⟩ := pdL_cons h2
    have q1 := ih p1.1 p2.1 a1 b1
    have q2 := pds_eqv ih p1.2 p2.2 a2 b2
    show (PyData.eqv d e && PyData.eqvAll ds' es') = true ↔ _
    rw [Bool.and_eq_true, q1, q2, List.cons.injEq]
theorem lst_pd {ts : List T} {d : PyData} (h : (T.lst ts).pd = some d) : ∃ ds, pdL ts = some ds ∧ d = .list ds := by
  have h : (match pdL ts with | some ds => some (PyData.list ds) | none => none) = some d := h
  split at h
  · cases h; rename_i h1; exact ⟨_, h1, rfl⟩
  · cases h
theorem tup_pd {ts : List T} {d : PyData} (h : (T.tup ts).pd = some d) : ∃ ds, pdL ts = some ds ∧ d = .tuple ds := by
  have h : (match pdL ts with | some ds => some (PyData.tuple ds) | none => none) = some d := h
  split at h
  · cases h; rename_i h1; exact ⟨_, h1, rfl⟩
  · cases h
theorem pd_eqv : ∀ {n : Nat} {x y : T} {d e : PyData}, T.pl n x = true → T.pl n y = true → x.pd = some d → y.pd = some e → (PyData.eqv d e = true ↔ x = y) := by
  intro n
  induction n with
  | zero =>
    intro x y d e p1 p2 h1 h2
    rcases pl_kinds p1 with rfl | ⟨i, rfl⟩ | ⟨s, rfl⟩ | ⟨_, _, z, _⟩ | ⟨_, _, z, _⟩ <;> try omega
    all_goals rcases pl_kinds p2 with rfl | ⟨j, rfl⟩ | ⟨u, rfl⟩ | ⟨_, _, z, _⟩ | ⟨_, _, z, _⟩ <;> first | omega | (cases h1; cases h2; simp [PyData.eqv])
  | succ n ih =>
    intro x y d e p1 p2 h1 h2
    rcases pl_kinds p1 with rfl | ⟨i, rfl⟩ | ⟨s, rfl⟩ | ⟨m, ts, z, rfl, q1⟩ | ⟨m, ts, z, rfl, q1⟩ <;> rcases pl_kinds p2 with rfl | ⟨j, rfl⟩ | ⟨u, rfl⟩ | ⟨m2, us, z2, rfl, q2⟩ | ⟨m2, us, z2, rfl, q2⟩
    all_goals first
      | (obtain rfl : n = m := by omega
         obtain rfl : n = m2 := by omega
         first
           | (obtain ⟨ds, a1, rfl⟩ := lst_pd h1
              obtain ⟨es, b1, rfl⟩ := lst_pd h2
              have := pds_eqv ih q1 q2 a1 b1
              simp only [PyData.eqv, this, T.lst.injEq])
           | (obtain ⟨ds, a1, rfl⟩ := tup_pd h1
              obtain ⟨es, b1, rfl⟩ := tup_pd h2
              have := pds_eqv ih q1 q2 a1 b1
              simp only [PyData.eqv, this, T.tup.injEq])
           | (obtain ⟨ds, a1, rfl⟩ := lst_pd h1
              obtain ⟨es, b1, rfl⟩ := tup_pd h2
              simp [PyData.eqv])
           | (obtain ⟨ds, a1, rfl⟩ := tup_pd h1
              obtain ⟨es, b1, rfl⟩ := lst_pd h2
              simp [PyData.eqv]))
      | (obtain ⟨ds, a1, rfl⟩ := lst_pd h1; cases h2; simp [PyData.eqv])
      | (obtain ⟨ds, a1, rfl⟩ := tup_pd h1; cases h2; simp [PyData.eqv])
      | (obtain ⟨ds, a1, rfl⟩ := lst_pd h2; cases h1; simp [PyData.eqv])
      | (obtain ⟨ds, a1, rfl⟩ := tup_pd h2; cases h1; simp [PyData.eqv])
      | (cases h1; cases h2; simp [PyData.eqv])
open Classical in
/-- == of plain data is equality -/
theorem eqB_pl (n : Nat) {x y : T} (p1 : T.pl n x = true) (p2 : T.pl n y = true) (hn : n ≤ 59 := by decide) : eqB x y = some (decide (x = y)) := by
  obtain ⟨d, a1, a2⟩ := pl_pd p1
  obtain ⟨e, b1, b2⟩ := pl_pd p2
  unfold eqB
  rw [a1, b1]
  have q := pd_eqv p1 p2 a1 b1
  simp only [show d.depth ≤ 60 by omega, show e.depth ≤ 60 by omega, and_self, if_true]
  congr 1
  by_cases z : x = y
  · rw [q.mpr z]; simp [z]
  · have : PyData.eqv d e = false := by
      cases h : PyData.eqv d e with
      | false => rfl
      | true => exact absurd (q.mp h) z
    rw [this]; simp [z]
/-! membership in texts, lists of texts -/
theorem memB_ch {s z : Str} {c : Nat} (h : s.cps.toList = [c]) : memB (.str s) (.str z) = some (decide (c ∈ z.cps.toList)) := by
  unfold memB
  simp only [h]
theorem memB_l {x : T} {l : List T} (h1 : x.isS = true) (h2 : l.all T.isS = true) : memB x (.lst l) = some (inS x l) := by
  unfold memB
  simp only [h1, h2, and_self, if_true]
theorem memB_t {x : T} {l : List T} (h1 : x.isS = true) (h2 : l.all T.isS = true) : memB x (.tup l) = some (inS x l) := by
  unfold memB
  simp only [h1, h2, and_self, if_true]
theorem memB_c {x : T} {l : List T} (h1 : x.isS = true) : memB x (.ctup l) = some (inS x l) := by
  unfold memB
  simp only [h1, if_true]
end NQ
namespace NQ
open PySem L2
/-! ### objects: fields read, fields stored -/
/-- e.f of a thing whose parts are frozen -/
def fldT (c f : Str) : Op
  | [.ins c' fs ts] => if c' = c then fldAt fs ts f else none
  | _ => none
section
variable {X : Cx} {K : PySem.W.Frag} {sh : Nat → Sh} {Wx : WX} {c f : Str} {e o : Expr} {pos pos' : Pos}
end
/-- a field is set, or comes behind -/
def fldPut (fs : List Str) (ts : List T) (f : Str) (u : T) : List Str × List T := match fldSet fs ts f u with
  | some ts' => (fs, ts')
  | none => (fs ++ [f], ts ++ [u])
/-- one part of several is put anew -/
theorem OwL.put {K : PySem.W.Frag} {G : Addr → Prop} {H : Hp} {N : List Addr} {y : V} {u : T} : ∀ {ss : List Sh} {F : List Addr} {vs : List V} {ts : List T} {j : Nat} {s : Sh}, OwL K G H ss F vs ts → ss[j]? = some s → Ow K G H s N y u → ∃ F', OwL K G H ss F' (vs.set j y) (ts.set j u) ∧ (∀ a ∈ F', a ∈ F ∨ a ∈ N) ∧ (F.Nodup → N.Nodup → (∀ a ∈ F, a ∉ N) → F'.Nodup)
  | _, _, _, _, j, s, .nil, e, _ => by simp at e
  | _, _, _, _, 0, s, .cons (F := F) (F' := F') h r, e, o => by
    simp at e
    subst e
    refine ⟨N ++ F', .cons o r, fun a z => (List.mem_append.mp z).elim .inr fun z => .inl (List.mem_append_right _ z), fun nd nn dj => ?_⟩
    have nx := List.nodup_append.mp nd
    exact List.nodup_append.mpr ⟨nn, nx.2.1, fun a h1 b h2 z => dj b (List.mem_append_right _ h2) (by rw [← z]; exact h1)⟩
  | _, _, _, _, j + 1, s, .cons (F := F) (F' := F') h r, e, o => by
    obtain ⟨F2, h1, h2, h3⟩ := OwL.put r (j := j) (by simpa using e) o
    refine ⟨F ++ F2, .cons h h1, fun a z => (List.mem_append.mp z).elim (fun z => .inl (List.mem_append_left _ z)) fun z => (h2 a z).imp (fun w => List.mem_append_right _ w) id, fun nd nn dj => ?_⟩
    have nx := List.nodup_append.mp nd
    refine List.nodup_append.mpr ⟨nx.1, h3 nx.2.1 nn fun a z => dj a (List.mem_append_right _ z), fun a k1 b k2 z => ?_⟩
    subst z
    rcases h2 a k2 with w | w
    · exact nx.2.2 a k1 a w rfl
    · exact dj a (List.mem_append_left _ k1) w
theorem Ow.ins {K : PySem.W.Frag} {G : Addr → Prop} {H : Hp} {d : List (Str × Sh)} {F : List Addr} {v : V} {c : Str} {fs : List Str} {ts : List T} (h : Ow K G H (.flds d) F v (.ins c fs ts)) : ∃ a F' vs dx, v = .ref a ∧ F = a :: F' ∧ fs.length = vs.length ∧ H a = some (.ins (He.ga K c) dx (fs.zip vs)) ∧ OwL K G H (fs.map fun f => (d.lookup f).getD .fz) F' vs ts := by
  cases h with
  | nd ce k r => cases k; obtain ⟨hl, dx, ch⟩ := ce; exact ⟨_, _, _, dx, rfl, rfl, hl, ch, r⟩
end NQ
namespace NQ
open PySem L2
/-! ### o.f = e, o a place in what is one's own -/
def putFld (i : Nat) (π : List Pt) (c f : Str) (u : T) (δ : Dl) : Option Dl := match dAt δ i with
  | some t => match getP t π with
    | some (.ins c' fs ts) => if c' = c ∧ fs.length < 1000 then (match setP t π (.ins c (fldPut fs ts f u).1 (fldPut fs ts f u).2) with
      | some t2 => some (δ.set i (some t2))
      | none => none) else none
    | _ => none
  | none => none
def sFld (i : Nat) (π : List Pt) (c f : Str) (g : Dl → Rs) : Sf := fun δ => match g δ with
  | none => none
  | some (.error e, δ') => some (.exc e, δ')
  | some (.ok u, δ') => match putFld i π c f u δ' with
    | some δ2 => some (.nx, δ2)
    | none => none
section
variable {X : Cx} {K : PySem.W.Frag} {c : Cf} {Wx : WX} {o e : Expr} {i : Nat} {π : List Pt} {g : Dl → Rs} {cl f : Str} {d : List (Str × Sh)} {pos pos' : Pos}
/-! ### o.f op= e, e quiet -/
def sAugF (i : Nat) (π : List Pt) (cl f : Str) (op : Op) (g : Qf) : Sf := fun δ => match eP i (π ++ [.fld cl f]) δ, g δ with
  | some a, some b => match op [a, b] with
    | some u => match putFld i π cl f u δ with
      | some δ2 => some (.nx, δ2)
      | none => none
    | none => none
  | _, _ => none
end
end NQ
namespace NQ
open PySem L2
/-! ### a place is written: append, d[k] = e, x[k] = e -/
def putPl (i : Nat) (π : List Pt) (w : T) (δ : Dl) : Option Dl := match dAt δ i with
  | some t => match setP t π w with
    | some t2 => some (δ.set i (some t2))
    | none => none
  | none => none
def fAppP (i : Nat) (π : List Pt) (q : Qf) : Dl → Rs := fun δ => match eP i π δ, q δ with
  | some (.lst ts), some u => if ts.length < sizeLine then (match putPl i π (.lst (ts ++ [u])) δ with
    | some δ2 => some (.ok .non, δ2)
    | none => none) else none
  | _, _ => none
section
variable {X : Cx} {K : PySem.W.Frag} {sh : Nat → Sh} {Wx : WX} {o e : Expr} {i : Nat} {π : List Pt} {q : Qf} {apos cpos : Pos}
end
/-! dicts -/
def dputL {κ : Type} [DecidableEq κ] (ks : List κ) (ts : List T) (k : κ) (u : T) : List κ × List T :=
  if (ks.any fun a => decide (a = k)) = true then (ks, List.zipWith (fun a t => if a = k then u else t) ks ts) else (ks ++ [k], ts ++ [u])
def dputT (d k u : T) : Option T := match d with
  | .dic ks ts => if ks.length = ts.length ∧ ks.length < sizeLine then (match k.key with
    | some k => some (.dic (dputL ks ts k u).1 (dputL ks ts k u).2)
    | none => none) else none
  | .dit ks ts => if ks.length = ts.length ∧ ks.length < sizeLine then (match k with
    | .tup us => match keysT us with
      | some k => some (.dit (dputL ks ts k u).1 (dputL ks ts k u).2)
      | none => none
    | _ => none) else none
  | _ => none
end NQ
namespace NQ
open PySem L2
theorem Ow.dic {K : PySem.W.Frag} {G : Addr → Prop} {H : Hp} {F : List Addr} {v : V} {ks : List Key} {ts : List T} (h : Ow K G H (.all .fz) F v (.dic ks ts)) : ∃ a vs, v = .ref a ∧ F = [a] ∧ ks.length = vs.length ∧ H a = some (.dK (ks.zip vs)) ∧ DfL K G H vs ts := by
  cases h with
  | nd c k r =>
    cases k
    obtain ⟨d, rfl⟩ := OwL.df (ts := ts) r
    exact ⟨_, _, rfl, rfl, c.1, c.2, d⟩
theorem Ow.dit {K : PySem.W.Frag} {G : Addr → Prop} {H : Hp} {F : List Addr} {v : V} {ks : List (List Key)} {ts : List T} (h : Ow K G H (.all .fz) F v (.dit ks ts)) : ∃ a vs, v = .ref a ∧ F = [a] ∧ ks.length = vs.length ∧ H a = some (.dT (ks.zip vs)) ∧ DfL K G H vs ts := by
  cases h with
  | nd c k r =>
    cases k
    obtain ⟨d, rfl⟩ := OwL.df (ts := ts) r
    exact ⟨_, _, rfl, rfl, c.1, c.2, d⟩
def sPutD (i : Nat) (π : List Pt) (qk : Qf) (g : Dl → Rs) : Sf := fun δ => match g δ with
  | none => none
  | some (.error e, δ') => some (.exc e, δ')
  | some (.ok u, δ') => match eP i π δ', qk δ' with
    | some d, some k => match dputT d k u with
      | some d2 => match putPl i π d2 δ' with
        | some δ2 => some (.nx, δ2)
        | none => none
      | none => none
    | _, _ => none
section
variable {X : Cx} {K : PySem.W.Frag} {c : Cf} {Wx : WX} {o e k : Expr} {i : Nat} {π : List Pt} {g : Dl → Rs} {q : Qf} {pos pos' : Pos}
/-! x[k] = e, x a list at a place -/
def sSetP (i : Nat) (π : List Pt) (qk : Qf) (g : Dl → Rs) : Sf := fun δ => match g δ with
  | none => none
  | some (.error e, δ') => some (.exc e, δ')
  | some (.ok u, δ') => match eP i π δ', qk δ' with
    | some (.lst ts), some (.int n) => match setAt ts n u with
      | some ts' => match putPl i π (.lst ts') δ' with
        | some δ2 => some (.nx, δ2)
        | none => none
      | none => none
    | _, _ => none
end
end NQ
namespace NQ
open PySem L2
/-! ### methods -/
/-- x.m(..), x one's own object -/
def fMeth (cl m : Str) (ps : List Sh) (F : List T → Fo) (i : Nat) (os : List Opd) : Dl → Rs := fun δ => match dAt δ i with
  | some (.ins c fs _) => if c = cl ∧ m ∉ fs then fCall ps F (.var i :: os) δ else none
  | _ => none
/-- x.m(..), x a frozen object -/
def fMethF (cl m : Str) (ps : List Sh) (F : List T → Fo) (q : Qf) (os : List Opd) : Dl → Rs := fun δ => match q δ with
  | some (.ins c fs _) => if c = cl ∧ m ∉ fs then fCall ps F (.val (qE q) :: os) δ else none
  | _ => none
section
variable {X : Cx} {K : PySem.W.Frag} {sh : Nat → Sh} {Wx : WX} {ps : List Sh} {rs : Sh} {F : List T → Fo} {os : List Opd} {k i : Nat} {cl m : Str} {o e : Expr} {es : List Expr} {params : List Str} {p pos apos : Pos} {q : Qf} {d : List (Str × Sh)}
end
end NQ
namespace NQ
open PySem L2
/-! ### an object made -/
def fMake (cl : Str) (F : List T → Fo) (os : List Opd) : Dl → Rs := fun δ => match runs os δ with
  | none => none
  | some (.error e, δ') => some (.error e, δ')
  | some (.ok l, δ') => match res l δ' with
    | none => none
    | some ts => match F (.ins cl [] [] :: ts) with
      | some (.ret .non, o :: _) => some (.ok o, δ')
      | some (.exc e, _) => some (.error e, δ')
      | _ => none
section
variable {K : PySem.W.Frag} {sh : Nat → Sh} {W : Addr → Prop} {Y N : List Addr} {Fm : Nat → List Addr} {H H' : Hp} {σ : L2.St} {δ : Dl}
/-- new places are held -/
theorem Fr.holds (f : Fr K sh W Y Fm H σ δ) (hN : N.Nodup) (hf : ∀ a ∈ N, H a = none) (e : EdP noA H H') (hl : ∀ a ∈ N, NT H' a) : Fr K sh W (N ++ Y) Fm H' σ δ := by
  have np : ∀ a, Gw Y Fm W a → a ∉ N := fun a z w => f.al a z (hf a w)
  have hg : ∀ a, Gm (N ++ Y) Fm a → Gm Y Fm a ∨ H a = none := fun a h => h.elim (fun q => (List.mem_append.mp q).elim (fun z => .inr (hf a z)) fun z => .inl (.inl z)) fun q => .inl (.inr q)
  have f2 := f.ed0 e
  refine ⟨fun i t h => by obtain ⟨v, h1, h2⟩ := f.rel i t h; exact ⟨v, h1, h2.step e (fun _ z => z.elim) (fun a z => z.elim (fun q => (hg a q).imp .inl id) fun q => .inl (.inr q)) hg fun _ _ z => z.elim⟩, f2.un, f2.nd, f2.dj, f2.dw, f2.wl, f2.len, ?_, fun i a q => ?_, fun a q => ?_, fun a q => ?_⟩
  · exact List.nodup_append.mpr ⟨hN, f.xn, fun a h1 b h2 z => np b (.inl (.inl h2)) (by rw [← z]; exact h1)⟩
  · rcases List.mem_append.mp q with q | q
    · exact fun z => np a (.inl (.inr ⟨i, z⟩)) q
    · exact f.xd i a q
  · rcases List.mem_append.mp q with q | q
    · exact fun z => np a (.inr z) q
    · exact f.xw a q
  · rcases List.mem_append.mp q with q | q
    · exact hl a q
    · exact f2.xl a q
end
section
variable {X : Cx} {K : PySem.W.Frag} {sh : Nat → Sh} {Wx : WX} {ps : List Sh} {F : List T → Fo} {os : List Opd} {k : Nat} {cl : Str} {e : Expr} {es : List Expr} {params : List Str} {p pos : Pos} {d : List (Str × Sh)}
end
end NQ
namespace NQ
open PySem L2
/-! ### walking: objects -/
section
variable {F G : Sf} {f g : Dl → Rs} {u v : Qf} {δ δ2 : Dl} {i : Nat} {op : Op} {os : List Opd} {x y t : T} {ts : List T} {fs : List Str} {π : List Pt} {cl fl m : Str}
variable {N B C : Dl → Prop} {R : T → Dl → Prop} {E : Xn → Dl → Prop} {Q : T → Dl → Prop} {q : T → Prop}
theorem wo_fld (e : fldAt fs ts fl = some y) (z : q y) : Wq (fldT cl fl [.ins cl fs ts]) q := by
  unfold fldT
  simp only [if_true, e]
  exact z
/-- what a place holds when its field is stored; P: the tree then -/
def Fp (t : T) (π : List Pt) (c f : Str) (u : T) (P : T → Prop) : Prop := ∃ fs ts t2, getP t π = some (.ins c fs ts) ∧ fs.length < 1000 ∧ setP t π (.ins c (fldPut fs ts f u).1 (fldPut fs ts f u).2) = some t2 ∧ P t2
theorem fp_put {c f : Str} {w : T} {Z : Dl → Prop} (e : dAt δ i = some t) (z : Fp t π c f w fun t2 => Z (δ.set i (some t2))) : ∃ δ2, putFld i π c f w δ = some δ2 ∧ Z δ2 := by
  obtain ⟨fs, ts, t2, h1, h2, h3, h4⟩ := z
  refine ⟨_, ?_, h4⟩
  unfold putFld
  rw [e]
  simp only [h1, h2, and_self, if_true, h3]
theorem fp_here {c f : Str} {w : T} {P : T → Prop} {fs' : List Str} {ts' : List T} (hl : fs.length < 1000) (e : fldPut fs ts f w = (fs', ts')) (z : P (.ins c fs' ts')) : Fp (.ins c fs ts) [] c f w P := ⟨fs, ts, .ins c fs' ts', rfl, hl, by rw [e]; rfl, z⟩
theorem ws_fld (z : We (g δ) (fun w δ' => At δ' i fun t => Fp t π cl fl w fun t2 => Nm (δ'.set i (some t2)) N) E) : Ws (sFld i π cl fl g δ) N B C R E := by
  unfold sFld
  rcases we_c z with ⟨w, d0, e0, t, e1, z⟩ | ⟨t0, d0, e0, z⟩ <;> simp only [e0]
  · obtain ⟨δ2, e2, z⟩ := fp_put e1 z
    simp only [e2]
    exact z
  · exact z
theorem ws_afld (z : Wq (eP i (π ++ [.fld cl fl]) δ) fun a => Wq (u δ) fun b => Wq (op [a, b]) fun w => At δ i fun t => Fp t π cl fl w fun t2 => Nm (δ.set i (some t2)) N) : Ws (sAugF i π cl fl op u δ) N B C R E := by
  unfold sAugF
  obtain ⟨a, e1, z⟩ := wq_ex z
  obtain ⟨b, e2, z⟩ := wq_ex z
  obtain ⟨w, e3, t, e4, z⟩ := wq_ex z
  obtain ⟨δ2, e5, z⟩ := fp_put e4 z
  simp only [e1, e2, e3, e5]
  exact z
theorem put_go {w : T} {Z : Dl → Prop} (e : dAt δ i = some t) (z : So (setP t π w) fun t2 => Z (δ.set i (some t2))) : ∃ δ2, putPl i π w δ = some δ2 ∧ Z δ2 := by
  obtain ⟨t2, h1, h2⟩ := z
  refine ⟨_, ?_, h2⟩
  unfold putPl
  rw [e]
  simp only [h1]
theorem we_appP (z : Wq (eP i π δ) fun x => Is x T.lst fun us => Wq (u δ) fun w => Sd (us.length < sizeLine) (At δ i fun t => So (setP t π (.lst (us ++ [w]))) fun t2 => Nm (δ.set i (some t2)) (Q .non))) : We (fAppP i π u δ) Q E := by
  unfold fAppP
  obtain ⟨_, e1, us, rfl, z⟩ := wq_ex z
  obtain ⟨w, e2, hl, t, e3, z⟩ := wq_ex z
  obtain ⟨δ2, e4, z⟩ := put_go e3 z
  simp only [e1, e2, hl, if_true, e4]
  exact z
theorem ws_putD (z : We (g δ) (fun w δ' => Wq (eP i π δ') fun d => Wq (u δ') fun k => So (dputT d k w) fun d2 => At δ' i fun t => So (setP t π d2) fun t2 => Nm (δ'.set i (some t2)) N) E) : Ws (sPutD i π u g δ) N B C R E := by
  unfold sPutD
  rcases we_c z with ⟨w, d0, e0, z⟩ | ⟨t0, d0, e0, z⟩ <;> simp only [e0]
  · obtain ⟨d, e1, z⟩ := wq_ex z
    obtain ⟨k, e2, d2, e3, t, e4, z⟩ := wq_ex z
    obtain ⟨δ2, e5, z⟩ := put_go e4 z
    simp only [e1, e2, e3, e5]
    exact z
  · exact z
theorem ws_setP (z : We (g δ) (fun w δ' => Wq (eP i π δ') fun x => Is x T.lst fun us => Wq (u δ') fun k => Is k T.int fun n => So (setAt us n w) fun us' => At δ' i fun t => So (setP t π (.lst us')) fun t2 => Nm (δ'.set i (some t2)) N) E) : Ws (sSetP i π u g δ) N B C R E := by
  unfold sSetP
  rcases we_c z with ⟨w, d0, e0, z⟩ | ⟨t0, d0, e0, z⟩ <;> simp only [e0]
  · obtain ⟨_, e1, us, rfl, z⟩ := wq_ex z
    obtain ⟨_, e2, n, rfl, us', e3, t, e4, z⟩ := wq_ex z
    obtain ⟨δ2, e5, z⟩ := put_go e4 z
    simp only [e1, e2, e3, e5]
    exact z
  · exact z
theorem we_meth {ps : List Sh} {Ff : List T → Fo} (e : dAt δ i = some (.ins cl fs ts)) (hm : m ∉ fs) (z : We (fCall ps Ff (.var i :: os) δ) Q E) : We (fMeth cl m ps Ff i os δ) Q E := by
  unfold fMeth
  rw [e]
  simp only [hm, not_false_eq_true, and_self, if_true]
  exact z
theorem we_methF {ps : List Sh} {Ff : List T → Fo} (z : Wq (u δ) fun t => ∃ fs ts, t = .ins cl fs ts ∧ m ∉ fs ∧ We (fCall ps Ff (.val (qE u) :: os) δ) Q E) : We (fMethF cl m ps Ff u os δ) Q E := by
  unfold fMethF
  obtain ⟨t, e1, fs, ts, rfl, hm, z⟩ := wq_ex z
  rw [e1]
  simp only [hm, not_false_eq_true, and_self, if_true]
  exact z
theorem we_make {Ff : List T → Fo} (z : Wa os δ (fun us δ' => Wf (Ff (.ins cl [] [] :: us)) (fun t l => t = .non ∧ ∃ o r, l = o :: r ∧ Q o δ') fun e _ => E e δ') E) : We (fMake cl Ff os δ) Q E := by
  unfold fMake
  rcases wa_c z with ⟨l0, d0, ts0, e1, e2, z⟩ | ⟨t0, d0, e1, z⟩
  · simp only [e1, e2]
    rcases wf_or z with ⟨t, l, e3, rfl, o, r, rfl, z⟩ | ⟨t, l, e3, z⟩
    · simp only [e3]; exact z
    · simp only [e3]; exact z
  · simp only [e1]; exact z
end
end NQ
namespace NQ
open PySem L2
/-! ### {}; what += does -/
def fNewK : Dl → Rs := fun δ => some (.ok (.dic [] []), δ)
def fNewT : Dl → Rs := fun δ => some (.ok (.dit [] []), δ)
section
variable {X : Cx} {K : PySem.W.Frag} {sh : Nat → Sh} {Wx : WX} {pos : Pos}
end
section
variable {δ : Dl} {Q : T → Dl → Prop} {E : Xn → Dl → Prop}
theorem we_newK (z : Q (.dic [] []) δ) : We (fNewK δ) Q E := z
theorem we_newT (z : Q (.dit [] []) δ) : We (fNewT δ) Q E := z
end
/-! ### a comprehension whose items are new things of one's own -/
end NQ
namespace NQ
open PySem L2
/-! ### [] of any shape -/
section
variable {X : Cx} {K : PySem.W.Frag} {sh : Nat → Sh} {Wx : WX} {pos : Pos}
end
end NQ
namespace L2
open PySem PySem.Spec PyProof.Rows
section
variable {X : Cx}
end
end L2
namespace NQ
open PySem L2
/-! ### dict(d) -/
section
variable {X : Cx} {K : PySem.W.Frag} {a : Expr} {pos p : Pos}
end
end NQ
namespace NQ
open PySem L2
/-! ### a class called by a local name (cls in a classmethod) -/
section
variable {K : PySem.W.Frag} {sh : Nat → Sh} {W : Addr → Prop} {Y N : List Addr} {Fm : Nat → List Addr} {H H' : Hp} {σ : L2.St} {δ : Dl}
variable {X : Cx} {K : PySem.W.Frag} {sh : Nat → Sh} {Wx : WX} {ps : List Sh} {F : List T → Fo} {os : List Opd} {k : Nat} {cl : Str} {e : Expr} {es : List Expr} {params : List Str} {p pos : Pos} {d : List (Str × Sh)}
end
end NQ
namespace NQ
open PySem L2
/-! ### classmethods -/
def fCM (cl : Str) (ps : List Sh) (F : List T → Fo) (q : Qf) (os : List Opd) : Dl → Rs := fun δ => match q δ with
  | some (.gl x) => if x = cl then fCall ps F (.val (qE q) :: os) δ else none
  | _ => none
section
variable {X : Cx} {K : PySem.W.Frag} {sh : Nat → Sh} {Wx : WX} {ps : List Sh} {rs : Sh} {F : List T → Fo} {os : List Opd} {k i : Nat} {cl m : Str} {o e : Expr} {es : List Expr} {params : List Str} {p pos apos : Pos} {q : Qf} {d : List (Str × Sh)}
end
section
variable {X : Cx} {K : PySem.W.Frag} {sh : Nat → Sh} {Wx : WX} {ps : List Sh} {F : List T → Fo} {os : List Opd} {k : Nat} {cl m : Str} {o e : Expr} {es : List Expr} {params : List Str} {apos pos : Pos} {q : Qf}
end
end NQ
namespace NQ
open PySem L2
/-! ### a part of what is one's own gets a name of its own for a while -/
section
variable {K : PySem.W.Frag} {G : Addr → Prop} {H : Hp}
end
/-! ### the part is taken out, and put back -/
section
variable {K : PySem.W.Frag} {sh : Nat → Sh} {W : Addr → Prop} {X X' Y : List Addr} {Fm : Nat → List Addr} {H : Hp} {σ : L2.St} {δ : Dl} {i : Nat} {π : List Pt} {t t' : T} {s' : Sh}
/-- the footprints without that of the slot i -/
def Fx (Fm : Nat → List Addr) (i : Nat) : Nat → List Addr := fun j => if j = i then [] else Fm j
end
/-! ### places told by the state -/
abbrev Pf := Dl → Option (List Pt)
def pNil : Pf := fun _ => some []
def pFld (πf : Pf) (c f : Str) : Pf := fun δ => match πf δ with
  | some π => some (π ++ [.fld c f])
  | none => none
def pIx (πf : Pf) (q : Qf) : Pf := fun δ => match πf δ, q δ with
  | some π, some (.int n) => some (π ++ [.ix n])
  | _, _ => none
def ShF (s0 : Sh) (πf : Pf) (s : Sh) : Prop := ∀ δ π, πf δ = some π → shP s0 π = some s
theorem shP_app : ∀ {π ρ : List Pt} {s u : Sh}, shP s π = some u → shP s (π ++ ρ) = shP u ρ
  | [], ρ, s, u, h => by
    have : s = u := by cases s <;> exact Option.some.inj h
    rw [this]; rfl
  | .fld c f :: π, ρ, .flds d, u, h => by
    show shP ((d.lookup f).getD .fz) (π ++ ρ) = _
    exact shP_app (π := π) h
  | .ix n :: π, ρ, .all s, u, h => by
    show shP s (π ++ ρ) = _
    exact shP_app (π := π) h
  | .fld c f :: π, ρ, .fz, _, h => by cases h
  | .fld c f :: π, ρ, .vw, _, h => by cases h
  | .fld c f :: π, ρ, .xc _ _ _ _, _, h => by cases h
  | .fld c f :: π, ρ, .all _, _, h => by cases h
  | .fld c f :: π, ρ, .row _, _, h => by cases h
  | .fld c f :: π, ρ, .opt _, _, h => by cases h
  | .ix n :: π, ρ, .fz, _, h => by cases h
  | .ix n :: π, ρ, .vw, _, h => by cases h
  | .ix n :: π, ρ, .xc _ _ _ _, _, h => by cases h
  | .ix n :: π, ρ, .flds _, _, h => by cases h
  | .ix n :: π, ρ, .row _, _, h => by cases h
  | .ix n :: π, ρ, .opt _, _, h => by cases h
theorem ShF.nil {s : Sh} : ShF s pNil s := fun δ π h => by cases h; cases s <;> rfl
theorem ShF.fld {s0 : Sh} {πf : Pf} {d : List (Str × Sh)} {c f : Str} (h : ShF s0 πf (.flds d)) : ShF s0 (pFld πf c f) ((d.lookup f).getD .fz) := fun δ π e => by
  unfold pFld at e
  split at e
  · rename_i p q
    cases e
    rw [shP_app (h δ p q)]
    show shP ((d.lookup f).getD .fz) [] = _
    cases (d.lookup f).getD .fz <;> rfl
  · cases e
theorem ShF.ix {s0 s : Sh} {πf : Pf} {q : Qf} (h : ShF s0 πf (.all s)) : ShF s0 (pIx πf q) s := fun δ π e => by
  unfold pIx at e
  split at e
  · rename_i p n q1 q2
    cases e
    rw [shP_app (h δ p q1)]
    show shP s [] = _
    cases s <;> rfl
  · cases e
def ePq (i : Nat) (πf : Pf) : Qf := fun δ => match πf δ, dAt δ i with
  | some π, some t => getP t π
  | _, _ => none
section
variable {X : Cx} {K : PySem.W.Frag} {sh : Nat → Sh} {e o k : Expr} {i : Nat} {πf : Pf} {pos : Pos} {s s' : Sh} {q : Qf}
end
/-! ### blocks in parts -/
end NQ
namespace NQ
open PySem L2
/-! ### x = a part of what is one's own: the part is x's to the end of the block -/
def sBor (i j : Nat) (πf : Pf) (G : Sf) : Sf := fun δ => match πf δ, dAt δ i with
  | some π, some t => match getP t π with
    | some t' => match G ((δ.set i none).set j (some t')) with
      | some (fl, δ') => match dAt δ' j with
        | some w => match setP t π w with
          | some t2 => if i < δ'.length ∧ j < δ.length then some (fl, (δ'.set j none).set i (some t2)) else none
          | none => none
        | none => none
      | none => none
    | none => none
  | _, _ => none
section
variable {X : Cx} {K : PySem.W.Frag} {c : Cf} {Wx : WX} {rest : List Stmt} {G : Sf} {e : Expr} {pos : Pos} {i j : Nat} {πf : Pf}
end
end NQ
namespace NL
open PySem L2
/-! ### an own class made: defaults and keywords -/
structure MkN (P : Program) (w : World) (K : PySem.W.Frag) (mg : Str → Option Value) (base : Heap) (k : Nat) (x : Str) (C : Addr) (ps : List Str) (n : Nat) (ks : List Str) (gV : List V → List V → List V) (sp : Sp) : Prop where
  g : mg x = some (.ref C)
  fn : ∃ (f : Addr) (fd : FuncData) (gg : List Value → List Value → List Value), Mk K C f ∧ KBn K fd ps (n + 1) ks gg gV ∧ FnOk P w K mg base (L2.CX P w) k f fd ps sp
section
variable {X : Cx} {k n : Nat} {x : Str} {C : Addr} {e : Expr} {es : List Expr} {kws : List Keyword} {t tk : TA} {p pos : Pos} {ps ks : List Str} {sp : Sp} {W : WX} {gV : List V → List V → List V}
end
end NL
namespace NQ
open PySem L2
def fMakeK (cl : Str) (F : List T → Fo) (gT : List T → List T) (os : List Opd) : Dl → Rs := fun δ => match runs os δ with
  | none => none
  | some (.error e, δ') => some (.error e, δ')
  | some (.ok l, δ') => match res l δ' with
    | none => none
    | some ts => match F (.ins cl [] [] :: gT ts) with
      | some (.ret .non, o :: _) => some (.ok o, δ')
      | some (.exc e, _) => some (.error e, δ')
      | _ => none
theorem TOs_app {K : PySem.W.Frag} {sh : Nat → Sh} {Wx : WX} {σ : L2.St} : ∀ {os os2 : List Opd} {H : Hp} {Q : List V → Hp → Prop}, TOs K sh Wx (os ++ os2) σ H Q → TOs K sh Wx os σ H fun vs H1 => TOs K sh Wx os2 σ H1 fun zs H2 => vs.length = os.length ∧ Q (vs ++ zs) H2
  | [], os2, H, Q, h => by
    show TOs K sh Wx os2 σ H _
    exact TOs.mono' (fun zs H2 q => ⟨rfl, q⟩) h
  | o :: os, os2, H, Q, h => by
    show TO K sh Wx o σ H fun y H2 => _
    refine TO.mono σ H _ _ (fun x H' q => ?_) h
    have := TOs_app (os := os) (os2 := os2) q
    refine TOs.mono' (fun vs H1 q => ?_) this
    refine TOs.mono' (fun zs H2 q => ?_) q
    exact ⟨congrArg Nat.succ q.1, q.2⟩
where
  TOs.mono' {K : PySem.W.Frag} {sh : Nat → Sh} {Wx : WX} {σ : L2.St} : ∀ {os : List Opd} {H : Hp} {Q Q' : List V → Hp → Prop}, (∀ vs H', Q vs H' → Q' vs H') → TOs K sh Wx os σ H Q → TOs K sh Wx os σ H Q'
    | [], H, Q, Q', i, h => i _ _ h
    | o :: os, H, Q, Q', i, h => by
      show TO K sh Wx o σ H fun y H2 => _
      refine TO.mono σ H _ _ (fun x H' q => ?_) h
      exact TOs.mono' (os := os) (fun vs H1 q => i _ _ q) q
theorem TOs.mono' {K : PySem.W.Frag} {sh : Nat → Sh} {Wx : WX} {σ : L2.St} {os : List Opd} {H : Hp} {Q Q' : List V → Hp → Prop} (i : ∀ vs H', Q vs H' → Q' vs H') (h : TOs K sh Wx os σ H Q) : TOs K sh Wx os σ H Q' := TOs_app.TOs.mono' i h
section
variable {K : PySem.W.Frag} {sh : Nat → Sh} {Wx : WX} {ps : List Sh} {F : List T → Fo} {cl : Str} {d : List (Str × Sh)} {σ : L2.St} {Q : VK} {W : Addr → Prop} {Y : List Addr} {Fm1 : Nat → List Addr} {H1 : Hp} {δ' : Dl}
end
section
variable {X : Cx} {K : PySem.W.Frag} {sh : Nat → Sh} {Wx : WX} {ps : List Sh} {F : List T → Fo} {os os2 : List Opd} {k n : Nat} {cl : Str} {e : Expr} {es : List Expr} {params ks : List Str} {p pos : Pos} {d : List (Str × Sh)} {gV : List V → List V → List V} {gT : List T → List T} {kws : List Keyword}
end
end NQ
namespace PySem
open Sem (wp)
/-! ### enumerate(v), v told by how it begins -/
section
variable {prog : Program} {w : World} {A : Around} {E : Value → Shared → Prop} {s : Shared}
end
end PySem
namespace NL
open PySem PySem.Spec PyProof.Rows L2
end NL
namespace NQ
open PySem L2
/-! ### enumerate of a list or tuple; zip of two lists, of two tuples -/
section
variable {K : PySem.W.Frag} {G : Addr → Prop} {H : Hp} {a b : Addr} {vs ws : List V} {ts us : List T}
def zpT (ts us : List T) : List T := List.zipWith (fun x y => T.tup [x, y]) ts us
end
section
variable {X : Cx} {K : PySem.W.Frag} {sh : Nat → Sh} {Wx : WX} {tg e e2 : Expr} {es : List Expr} {pos p : Pos}
def itEn2 (f : Dl → Rs) : Il := fun δ => match f δ with
  | some (.ok (.lst ts), δ') => some (.ok (enT ts), δ')
  | some (.ok (.tup ts), δ') => some (.ok (enT ts), δ')
  | some (.ok (.ctup ts), δ') => some (.ok (enT ts), δ')
  | some (.error e, δ') => some (.error e, δ')
  | _ => none
def zipT : T → T → Option (List T)
  | .lst ts, .lst us => some (zpT ts us)
  | .tup ts, .tup us => some (zpT ts us)
  | _, _ => none
def itZ (f g : Dl → Rs) : Il := fun δ => match f δ with
  | none => none
  | some (.error e, δ') => some (.error e, δ')
  | some (.ok t, δ1) => match g δ1 with
    | none => none
    | some (.error e, δ') => some (.error e, δ')
    | some (.ok u, δ') => match zipT t u with
      | some ts => some (.ok ts, δ')
      | none => none
end
end NQ
namespace NL
open PySem PySem.Spec PyProof.Rows L2
/-! ### an own class's special methods: o[i], o[i] = e, a | b, a == b -/
section
variable {X : Cx} {k : Nat} {C : Addr} {o i e a b : Expr} {to ti ta tb : TE} {pos : Pos} {ps : List Str} {sp : Sp} {W : WX}
end
end NL
namespace NQ
open PySem L2
/-! ### special methods of own classes -/
/-- the operands at the places js are objects of the class cl -/
def insAt (cl : Str) : List Nat → List T → Bool
  | [], _ => true
  | j :: js, ts => (match ts[j]? with
    | some (.ins c _ _) => decide (c = cl)
    | _ => false) && insAt cl js ts
def fSp (cl : Str) (js : List Nat) (ps : List Sh) (F : List T → Fo) (os : List Opd) : Dl → Rs := fun δ => match runs os δ with
  | none => none
  | some (.error e, δ') => some (.error e, δ')
  | some (.ok l, δ') => match res l δ' with
    | none => none
    | some ts => if insAt cl js ts = true then (match F ts with
      | none => none
      | some (.ret t, ts') => if ts'.length = ps.length then some (.ok t, wb ps (skO os) ts' δ') else none
      | some (.exc e, ts') => if ts'.length = ps.length then some (.error e, wb ps (skO os) ts' δ') else none) else none
section
variable {X : Cx} {K : PySem.W.Frag} {sh : Nat → Sh} {Wx : WX} {ps : List Sh} {rs : Sh} {F : List T → Fo} {os : List Opd} {cl : Str} {js : List Nat}
end
section
variable {X : Cx} {K : PySem.W.Frag} {sh : Nat → Sh} {Wx : WX} {ps : List Sh} {rs : Sh} {F : List T → Fo} {o1 o2 : Opd} {cl : Str} {k : Nat} {o i a b e : Expr} {params : List Str} {pos : Pos}
end
/-! ### o[i] = e, o one's own object -/
def sSetO (cl : Str) (ps : List Sh) (F : List T → Fo) (i : Nat) (q : Qf) (f : Dl → Rs) : Sf := fun δ => match f δ with
  | none => none
  | some (.error e, δ') => some (.exc e, δ')
  | some (.ok t, δ1) => match dAt δ1 i, q δ1 with
    | some (.ins c fs us), some k => if c = cl then (match F [.ins c fs us, k, t] with
      | some (.ret r, o' :: ts') => if (o' :: ts').length = ps.length then some (.nx, δ1.set i (some o')) else none
      | some (.exc e, o' :: ts') => if (o' :: ts').length = ps.length then some (.exc e, δ1.set i (some o')) else none
      | _ => none) else none
    | _, _ => none
section
variable {X : Cx} {K : PySem.W.Frag} {c : Cf} {Wx : WX} {d : List (Str × Sh)} {F : List T → Fo} {cl : Str} {k i : Nat} {o ix e : Expr} {params : List Str} {pos p2 : Pos} {q : Qf} {f : Dl → Rs}
end
end NQ
namespace NQ
open PySem L2
/-! ### not a, as a value -/
def notV (u : Qf) : Qf := fun δ => match u δ with
  | some t => match truW t with
    | some b => some (.bl (!b))
    | none => none
  | none => none
def notW (f : Dl → Rs) : Dl → Rs := fun δ => match f δ with
  | none => none
  | some (.error e, δ') => some (.error e, δ')
  | some (.ok t, δ') => match truW t with
    | some b => some (.ok (.bl (!b)), δ')
    | none => none
section
variable {X : Cx} {K : PySem.W.Frag} {sh : Nat → Sh} {Wx : WX} {a b c e : Expr} {pos p p2 : Pos} {u : Qf} {f g : Dl → Rs} {m m3 : Md} {h : Qf} {o o' : CmpOp} {op op' : Op}
/-! ### tuple(range(..)), list(range(..)) -/
def rgT (a b : Int) : List T := (List.range (b - a).toNat).map fun i => T.int (a + (i : Nat))
def tupRg (f : Dl → Rs) : Dl → Rs := fun δ => match f δ with
  | some (.ok (.int n), δ') => if 0 ≤ n ∧ n ≤ 16777216 then some (.ok (.tup (rgT 0 n)), δ') else none
  | some (.error e, δ') => some (.error e, δ')
  | _ => none
def lstRg (f : Dl → Rs) : Dl → Rs := fun δ => match f δ with
  | some (.ok (.int n), δ') => if 0 ≤ n ∧ n ≤ 16777216 then some (.ok (.lst (rgT 0 n)), δ') else none
  | some (.error e, δ') => some (.error e, δ')
  | _ => none
/-! ### C.NAME, a constant tuple of a class -/
structure CNm (K : PySem.W.Frag) (C : Str) (f : Str) (ts : List T) : Prop where
  cr : ClX.CRead K (He.ga K C) (.type "type")
  cv : ∃ a : Addr, ClX.CVal K (He.ga K C) (.type "type") f (.ref a) (.ref a) ∧ ∀ H : Hp, SqT K H a (ts.map T.sv)
/-! ### a < b < c, the first two no mere readings -/
def chE (op op' : Op) (f g : Dl → Rs) (h : Qf) : Dl → Rs := fun δ => match f δ with
  | none => none
  | some (.error e, δ') => some (.error e, δ')
  | some (.ok x, δ1) => match g δ1 with
    | none => none
    | some (.error e, δ') => some (.error e, δ')
    | some (.ok y, δ2) => match op [x, y] with
      | some (.bl true) => match h δ2 with
        | some z => match op' [y, z] with
          | some r => some (.ok r, δ2)
          | none => none
        | none => none
      | some (.bl false) => some (.ok (.bl false), δ2)
      | _ => none
end
end NQ
namespace NL
open PySem L2
/-! ### more facts of the written part: class constants, what a class is not -/
inductive Fz where
  | cnm (x f : Str) (vs : List He.Dv)
  | nsq (x : Str)
  | slf (x : Str)
def cnmB (K : PySem.W.Frag) (C : Addr) (f : Str) (vs : List He.Dv) : Bool := match PySem.W.findCls K (.ref C) (.type "type") f with
  | some (.val (.ref a)) => (match K.lookup a with
    | some ⟨.type c, _, .seq its _, _⟩ => decide (c = "tuple") && (decide (its.size ≤ sizeLine) && He.relAll (vs.map (He.Dv.v K)) its.toList)
    | _ => false)
  | _ => false
def Fz.ok (K : PySem.W.Frag) : Fz → Bool
  | .cnm x f vs => PySem.W.readsIn K (He.ga K x) (.type "type") && cnmB K (He.ga K x) f vs
  | .nsq x => PySem.W.noSeq K (He.ga K x)
  | .slf x => PySem.W.selfFirst K (He.ga K x)
def fzB (l : List Fz) (K : PySem.W.Frag) : Bool := l.all fun f => f.ok K
end NL
namespace NQ
open PySem L2
/-! ### comprehensions whose items are things of one's own -/
section
variable {X : Cx} {K : PySem.W.Frag} {c : Cf} {Wx : WX} {its : Il} {g : Gf} {cnd : Dl → Rb} {el : Dl → Rs} {vs ns : List Nat} {σ : L2.St} {H : Hp} {Q : VK} {s : Sh}
variable {elt tg iter : Expr} {ifs : List Expr} {scope : Scope} {own : List (Str × Nat)} {pos : Pos}
variable {y : Str} {py spos : Pos}
end
end NQ
namespace NQ
open PySem L2
/-! ### a, b = e1, e2 of plain locals -/
def sPar2 (i j : Nat) (f g : Dl → Rs) : Sf := fun δ => match f δ with
  | none => none
  | some (.error e, δ') => some (.exc e, δ')
  | some (.ok t, δ1) => match g δ1 with
    | none => none
    | some (.error e, δ') => some (.exc e, δ')
    | some (.ok u, δ2) => if i < δ2.length ∧ j < δ2.length then some (.nx, (δ2.set i (some t)).set j (some u)) else none
section
variable {X : Cx} {K : PySem.W.Frag} {c : Cf} {sh : Nat → Sh} {Wx : WX} {f g : Dl → Rs} {a b e : Expr}
theorem Ke.held {W : Addr → Prop} {F Y : List Addr} {Fm : Nat → List Addr} {σ : L2.St} {H : Hp} {e : Xn} {δ' : Dl} (h : Ke K sh Wx W Y Fm σ H e δ') : Ke K sh Wx W (F ++ Y) Fm σ H e δ' := fun d v H' Fm' f' x' q dv =>
  h d v H' Fm' f'.let x' ⟨fun z => q.1 (z.imp (fun z => z.imp (fun w => List.mem_append_right _ w) id) id), q.2⟩ (dv.weak fun a z => z.imp (fun z => z.imp (fun w => List.mem_append_right _ w) id) id)
end
end NQ
namespace NL
open PySem PySem.Spec PyProof.Rows L2
/-! ### the keys of a dict that is locked as soon as it is told, and let go behind the statement -/
def NoF (X : Cx) (d : Addr) : Prop := ∀ o' u', X.H_0 d ≠ some (.frz o' u')
section
variable {X : Cx} {tg e : Expr} {td : TE}
end
end NL
namespace NQ
open PySem L2
/-! ### a frozen dict is locked, or let go: what the frame tells stays -/
def Du (u : HO) : Prop := (∃ kvs, u = .dK kvs) ∨ ∃ kvs, u = .dT kvs
def Lk (d : Addr) (H H' : Hp) : Prop := (∀ b, b ≠ d → H' b = H b) ∧ ∃ o u, Du u ∧ ((H d = some u ∧ H' d = some (.frz o u)) ∨ (H d = some (.frz o u) ∧ H' d = some u))
theorem Du.nf {u : HO} (h : Du u) : ∀ o w, u ≠ .frz o w := by rcases h with ⟨_, rfl⟩ | ⟨_, rfl⟩ <;> exact fun _ _ z => nomatch z
theorem Du.nt {u : HO} (h : Du u) : ∀ xs, u ≠ .tup xs := by rcases h with ⟨_, rfl⟩ | ⟨_, rfl⟩ <;> exact fun _ z => nomatch z
theorem Du.ni {u : HO} (h : Du u) : ∀ a b c, u ≠ .ins a b c := by rcases h with ⟨_, rfl⟩ | ⟨_, rfl⟩ <;> exact fun _ _ _ z => nomatch z
theorem Du.nx {u : HO} (h : Du u) : ∀ a, u ≠ .xd a := by rcases h with ⟨_, rfl⟩ | ⟨_, rfl⟩ <;> exact fun _ z => nomatch z
section
variable {d a : Addr} {H H' H1 : Hp} {u w : HO} {o : Obj} {K : PySem.W.Frag} {G : Addr → Prop}
theorem lk_lock (e : H d = some u) (h : Du u) : Lk d H (upd H d (.frz o u)) := ⟨fun b n => upd_ne n, o, u, h, .inl ⟨e, upd_same⟩⟩
theorem lk_unl (e : H d = some (.frz o u)) (h : Du u) : Lk d H (upd H d u) := ⟨fun b n => upd_ne n, o, u, h, .inr ⟨e, upd_same⟩⟩
theorem Lk.rd (l : Lk d H H') (n : ∀ o v, w ≠ .frz o v) (h : Rd H a w) : Rd H' a w := by
  by_cases z : a = d
  · subst z
    obtain ⟨_, o, u, du, ⟨e1, e2⟩ | ⟨e1, e2⟩⟩ := l
    · rcases h with h | ⟨o', h⟩ <;> rw [e1] at h
      · cases h; exact .inr ⟨o, e2⟩
      · exact absurd (Option.some.inj h) (du.nf _ _)
    · rcases h with h | ⟨o', h⟩ <;> rw [e1] at h
      · exact absurd (Option.some.inj h).symm (n _ _)
      · cases h; exact .inl e2
  · unfold Rd at h ⊢
    rw [l.1 a z]
    exact h
theorem Lk.alive (l : Lk d H H') : H' d ≠ none ∧ H d ≠ none := by
  obtain ⟨_, o, u, du, ⟨e1, e2⟩ | ⟨e1, e2⟩⟩ := l <;> rw [e1, e2] <;> exact ⟨(fun z => nomatch z), fun z => nomatch z⟩
theorem Lk.keep (l : Lk d H H') (n : ∀ o, H d = some o → o = w → False) (h : H a = some w) : H' a = some w := by
  by_cases z : a = d
  · subst z; exact (n _ h rfl).elim
  · rw [l.1 a z]; exact h
theorem Lk.keepI (l : Lk d H H') (n1 : ∀ u, Du u → u ≠ w) (n2 : ∀ o u, w ≠ .frz o u) (h : H a = some w) : H' a = some w := by
  refine l.keep (fun o e z => ?_) h
  subst z
  obtain ⟨_, o', u, du, ⟨e1, _⟩ | ⟨e1, _⟩⟩ := l <;> rw [e1] at e
  · exact n1 u du (Option.some.inj e)
  · exact n2 _ _ (Option.some.inj e).symm
theorem Lk.nt (l : Lk d H H') (h : NT H a) : NT H' a := by
  by_cases z : a = d
  · subst z
    obtain ⟨_, o, u, du, ⟨e1, e2⟩ | ⟨e1, e2⟩⟩ := l
    · exact .of e2
    · exact .of e2 du.nt
  · exact h.eq (l.1 a z)
theorem Lk.none (l : Lk d H H') : H' a = none ↔ H a = none := by
  by_cases z : a = d
  · subst z
    exact ⟨fun q => absurd q l.alive.1, fun q => absurd q l.alive.2⟩
  · rw [l.1 a z]
theorem CellR.lk {t : T} {vs : List V} (l : Lk d H H') (h : CellR K H a t vs) : CellR K H' a t vs := by
  unfold CellR at h ⊢
  split at h
  · exact l.rd (fun _ _ z => nomatch z) h
  · exact l.keepI (fun u du => du.nt _) (fun _ _ z => nomatch z) h
  · exact ⟨h.1, l.rd (fun _ _ z => nomatch z) h.2⟩
  · exact ⟨h.1, l.rd (fun _ _ z => nomatch z) h.2⟩
  · obtain ⟨h0, dx, h⟩ := h
    exact ⟨h0, dx, l.keepI (fun u du => du.ni _ _ _) (fun _ _ z => nomatch z) h⟩
  · exact h.elim
theorem Cell.lk {t : T} {vs : List V} (l : Lk d H H') (n : a ≠ d) (h : Cell K H a t vs) : Cell K H' a t vs := h.keep fun o e => by rw [l.1 a n]; exact e
mutual
theorem Df.lk (l : Lk d H H') : ∀ {v : V} {t : T}, Df K G H v t → Df K G H' v t
  | _, _, .sc h => .sc h
  | _, _, .nd n c r => .nd n (c.lk l) (DfL.lk l r)
theorem DfL.lk (l : Lk d H H') : ∀ {vs : List V} {ts : List T}, DfL K G H vs ts → DfL K G H' vs ts
  | _, _, .nil => .nil
  | _, _, .cons h r => .cons (Df.lk l h) (DfL.lk l r)
end
mutual
theorem Ow.lk (l : Lk d H H') : ∀ {s : Sh} {F : List Addr} {v : V} {t : T}, d ∉ F → Ow K G H s F v t → Ow K G H' s F v t
  | _, _, _, _, _, .fz h => .fz (h.lk l)
  | _, _, _, _, n, .nd c k r => .nd (c.lk l fun z => n (by rw [z]; exact List.mem_cons_self ..)) k (OwL.lk l (fun z => n (List.mem_cons_of_mem _ z)) r)
  | _, _, _, _, _, .optN => .optN
  | _, _, _, _, n, .optS h => .optS (Ow.lk l n h)
theorem OwL.lk (l : Lk d H H') : ∀ {ss : List Sh} {F : List Addr} {vs : List V} {ts : List T}, d ∉ F → OwL K G H ss F vs ts → OwL K G H' ss F vs ts
  | _, _, _, _, _, .nil => .nil
  | _, _, _, _, n, .cons h r => .cons (Ow.lk l (fun z => n (List.mem_append_left _ z)) h) (OwL.lk l (fun z => n (List.mem_append_right _ z)) r)
end
variable {sh : Nat → Sh} {W : Addr → Prop} {X : List Addr} {Fm Fm' : Nat → List Addr} {σ : L2.St} {δ : Dl} {s : Sh} {F : List Addr} {v : V} {t : T}
theorem Sr.lk (l : Lk d H H') (n : d ∉ F) (h : Sr K X Fm W H s F v t) : Sr K X Fm W H' s F v t := by
  rcases h with (⟨h1, h2, h3⟩ | ⟨h1, a, e, c, f, u, h2, h3, h4, h5, h6⟩) | h
  · exact .inl (.inl ⟨h1, h2, h3.lk l⟩)
  · exact .inl (.inr ⟨h1, a, e, c, f, u, h2, h3, h4, l.keepI (fun u du => du.nx _) (fun _ _ z => nomatch z) h5, h6.lk l⟩)
  · exact .inr (h.lk l n)
theorem Fr.lk (f : Fr K sh W X Fm H σ δ) (l : Lk d H H') (n : ¬ Om Fm d) : Fr K sh W X Fm H' σ δ :=
  ⟨fun i t h => by obtain ⟨v, h1, h2⟩ := f.rel i t h; exact ⟨v, h1, h2.lk l fun z => n ⟨i, z⟩⟩, f.un, f.nd, f.dj, f.dw, fun a z => l.nt (f.wl a z), f.len, f.xn, f.xd, f.xw, fun a z => l.nt (f.xl a z)⟩
/-- from the lock to the end: as if it had not been -/
theorem Xt.lk {U U' : Addr → Prop} (e : H d = some u) (du : Du u) (n : ¬ U d) (x : Xt U U' (upd H d (.frz o u)) H1) : H1 d = some (.frz o u) ∧ Xt U U' H (upd H1 d u) := by
  have h1 : H1 d = some (.frz o u) := x.1.1 d _ n upd_same
  have l1 : Lk d H (upd H d (.frz o u)) := lk_lock e du
  have l2 : Lk d H1 (upd H1 d u) := lk_unl h1 du
  refine ⟨h1, ⟨fun a w nu q => ?_, fun a q => ?_, fun a q => l2.nt (x.1.2.2 a (l1.nt q))⟩, fun a q => (x.2 a q).imp id fun y => l1.none.mp y⟩
  · by_cases z : a = d
    · subst z; rw [upd_same, ← q, e]
    · rw [upd_ne z]
      exact x.1.1 a w nu (by rw [upd_ne z]; exact q)
  · exact fun y => x.1.2.1 a (fun y2 => q (l1.none.mp y2)) (l2.none.mp y)
end
/-! ### for k in d -/
def keyT : Key → T
  | .inl i => .int i
  | .inr s => .str s
def keyOk : Key → Bool
  | .inl _ => true
  | .inr s => PyData.strOk s
def itK : T → Option (List T)
  | .dic ks ts => if ks.length = ts.length ∧ ks.all keyOk = true then some (ks.map keyT) else none
  | .dit ks ts => if ks.length = ts.length ∧ (ks.all fun k => k.all keyOk) = true then some (ks.map fun k => .tup (k.map keyT)) else none
  | _ => none
def noX : Ss → Ss
  | some (.exc _, _) => none
  | r => r
def sForK (f : Dl → Rs) (g : Gf) (b : Sf) : Sf := fun δ => match f δ with
  | none => none
  | some (.error e, δ') => some (.exc e, δ')
  | some (.ok t, δ') => match itK t with
    | some ts => noX (forM ts g b δ')
    | none => none
section
variable {K : PySem.W.Frag} {c : Cf} {Wx : WX} {W : Addr → Prop} {Y : List Addr} {Fm : Nat → List Addr} {H : Hp} {σ : L2.St} {δ : Dl} {g : Gf} {b : Sf} {ns : List Nat} {D : Ends} {J : It} {ts : List T} {d : Addr} {o : Obj} {G : Addr → Prop}
end
section
variable {X : Cx} {K : PySem.W.Frag} {c : Cf} {Wx : WX} {W : Addr → Prop} {Y : List Addr} {Fm : Nat → List Addr} {H : Hp} {σ : L2.St} {δ : Dl} {g : Gf} {b : Sf} {ns : List Nat} {D : Ends} {d : Addr} {u : HO} {o : Obj} {r : Ss} {N : L2.St → Hp → Prop} {δ' : Dl}
theorem Kx.lk (e : H d = some u) (du : Du u) (n : ¬ Om Fm d) (nf : NL.NoF X d) (k : Kx K c W Y Fm σ H δ' N) :
    Kx K c W Y Fm σ (upd H d (.frz o u)) δ' fun σ' H' => N σ' H' ∨ ∃ d od u, H' d = some (.frz od u) ∧ NL.NoF X d ∧ N σ' (upd H' d u) := fun σ' H' Fm' kp fr xt => by
  obtain ⟨h1, x2⟩ := xt.lk e du n
  refine .inr ⟨d, o, u, h1, nf, k σ' _ Fm' kp (fr.lk (lk_unl h1 du) fun z => ?_) x2⟩
  exact (x2.2 d z).elim n fun q => by rw [q] at e; cases e
theorem Df.dic {G : Addr → Prop} {x : V} {ks : List Key} {ts : List T} (h : Df K G H x (.dic ks ts)) : ∃ a vs, x = .ref a ∧ ¬ G a ∧ ks.length = vs.length ∧ Rd H a (.dK (ks.zip vs)) := by
  cases h with
  | sc h => exact h.elim
  | nd n c r => exact ⟨_, _, rfl, n, c.1, c.2⟩
theorem Df.dit {G : Addr → Prop} {x : V} {ks : List (List Key)} {ts : List T} (h : Df K G H x (.dit ks ts)) : ∃ a vs, x = .ref a ∧ ¬ G a ∧ ks.length = vs.length ∧ Rd H a (.dT (ks.zip vs)) := by
  cases h with
  | sc h => exact h.elim
  | nd n c r => exact ⟨_, _, rfl, n, c.1, c.2⟩
variable {tg e : Expr} {f : Dl → Rs} {body : List Stmt} {pos : Pos}
end
end NQ
namespace NQ
open PySem L2
/-! ### x = a part of what is one's own: the part is x's from here on, the rest is let go -/
def sMov (i j : Nat) (πf : Pf) : Sf := fun δ => match πf δ, dAt δ i with
  | some π, some t => match getP t π with
    | some t' => if j < δ.length then some (.nx, (δ.set i none).set j (some t')) else none
    | none => none
  | _, _ => none
section
variable {X : Cx} {K : PySem.W.Frag} {c : Cf} {Wx : WX} {rest : List Stmt} {G : Sf} {e : Expr} {pos : Pos} {i j : Nat} {πf : Pf}
end
/-! ### a list whose items are one's own: new ones, or variables that are given away -/
inductive Oo where
  | new (f : Dl → Rs) | mov (i : Nat)
def runO : List (Sh × Oo) → Dl → Option (Except Xn (List T) × Dl)
  | [], δ => some (.ok [], δ)
  | (_, .new f) :: r, δ => match f δ with
    | none => none
    | some (.error e, δ') => some (.error e, δ')
    | some (.ok t, δ1) => match runO r δ1 with
      | some (.ok ts, δ') => some (.ok (t :: ts), δ')
      | some (.error e, δ') => some (.error e, δ')
      | none => none
  | (_, .mov i) :: r, δ => match dAt δ i with
    | none => none
    | some t => match runO r (δ.set i none) with
      | some (.ok ts, δ') => some (.ok (t :: ts), δ')
      | some (.error e, δ') => some (.error e, δ')
      | none => none
def fLstO (os : List (Sh × Oo)) : Dl → Rs := fun δ => match runO os δ with
  | none => none
  | some (.error e, δ') => some (.error e, δ')
  | some (.ok ts, δ') => if ts.length ≤ sizeLine then some (.ok (.lst ts), δ') else none
section
variable {K : PySem.W.Frag} {sh : Nat → Sh} {Wx : WX} {W : Addr → Prop} {Y F : List Addr} {Fm Fm0 : Nat → List Addr} {H H0 : Hp} {σ : L2.St} {δ δ' : Dl} {e : Xn} {G : Addr → Prop}
theorem OwL.app : ∀ {ss ss' : List Sh} {F F' : List Addr} {vs vs' : List V} {ts ts' : List T}, OwL K G H ss F vs ts → OwL K G H ss' F' vs' ts' → OwL K G H (ss ++ ss') (F ++ F') (vs ++ vs') (ts ++ ts')
  | _, _, _, _, _, _, _, _, .nil, h => h
  | _, _, _, _, _, _, _, _, .cons h r, q => by
    have := OwL.cons h (OwL.app r q)
    rw [← List.append_assoc] at this
    exact this
theorem OwL.len : ∀ {ss : List Sh} {F : List Addr} {vs : List V} {ts : List T}, OwL K G H ss F vs ts → ss.length = ts.length ∧ vs.length = ts.length
  | _, _, _, _, .nil => ⟨rfl, rfl⟩
  | _, _, _, _, .cons _ r => ⟨congrArg Nat.succ r.len.1, congrArg Nat.succ r.len.2⟩
end
section
variable {X : Cx} {K : PySem.W.Frag} {sh : Nat → Sh} {Wx : WX} {es : List Expr} {pos : Pos} {s S : Sh} {os : List (Sh × Oo)}
end
end NQ
namespace PySem
open Sem (wp)
section
variable {prog : Program} {w : World} {K : Type} [DecidableEq K] {knd : KeyKind prog w K} {A : Around} {E : Value → Shared → Prop} {s : Shared}
theorem IsTupleKey.more {h h' : Heap} {ks : List K} {a : Addr} (x : IsTupleKey knd h ks a) (k : ∀ o, h.get? a = some o → h'.get? a = some o) : IsTupleKey knd h' ks a := by
  obtain ⟨o, its, n, h1, r⟩ := x
  exact ⟨o, its, n, k _ h1, r⟩
end
end PySem
namespace L2
open PySem PySem.Spec PyProof.Rows
section
variable {X : Cx}
end
end L2
namespace NQ
open PySem L2
/-! ### dict(d), d's keys tuples of ints whose hashes differ -/
section
variable {X : Cx} {K : PySem.W.Frag} {a : Expr} {pos p : Pos}
end
end NQ
namespace NQ
open PySem L2
/-! ### f(e): e is made for the call alone -/
def fCallT (F : List T → Fo) (f : Dl → Rs) : Dl → Rs := fun δ => match f δ with
  | none => none
  | some (.error e, δ') => some (.error e, δ')
  | some (.ok t, δ') => match F [t] with
    | some (.ret r, _) => some (.ok r, δ')
    | some (.exc e, _) => some (.error e, δ')
    | none => none
section
variable {K : PySem.W.Frag} {sh : Nat → Sh} {W U : Addr → Prop} {Y F1 : List Addr} {Fm Fm1 : Nat → List Addr} {H H' H1 : Hp} {σ : L2.St} {δ : Dl} {s : Sh} {x : V} {t : T}
end
section
variable {X : Cx} {K : PySem.W.Frag} {sh : Nat → Sh} {Wx : WX} {s : Sh} {F : List T → Fo} {f : Dl → Rs} {k : Nat} {x : Str} {e : Expr} {params : List Str} {p pos : Pos}
end
end NQ
namespace NL
open PySem PySem.Spec PyProof.Rows L2
/-! ### several clauses, with or without a name, and an else -/
abbrev Wc := Addr → Value → Option Addr → TS
/-- a clause with a name: the slot i holds the exception while the suite runs -/
def asW (i : Nat) (ts : Wc) : Wc := fun a cls d D σ H => ts a cls d { D with nx := fun τ G => D.nx (τ.set i none) G, bk := fun τ G => D.bk (τ.set i none) G, ct := fun τ G => D.ct (τ.set i none) G } (σ.set i (some (.ref a))) H
inductive HdA (X : Cx) : List ExceptHandler → List (Value × Wc) → Prop
  | nil : HdA X [] []
  | one {x : Str} {c : Value} {ts : Wc} {b₀ : Stmt} {suite : List Stmt} {np q0 : Pos} {hds : List ExceptHandler} {l : List (Value × Wc)} (hc : Names X x c)
      (hsu : ∀ (a : Addr) (o0 : Obj) (cls : Value) (d : Option Addr) (pn : List (Addr × Obj)), Zc cls d o0 → (∃ vs, o0.data = .fields vs) → PSs (X.suite a ((a, o0) :: pn)) (b₀ :: suite) (ts a cls d)) (r : HdA X hds l) :
      HdA X (.ExceptHandler (some (.Name x np)) none (b₀ :: suite) q0 :: hds) ((c, ts) :: l)
  | named {x n : Str} {i : Nat} {c : Value} {ts : Wc} {b₀ : Stmt} {suite : List Stmt} {np q0 : Pos} {hds : List ExceptHandler} {l : List (Value × Wc)} (hc : Names X x c) (hi : X.N[i]? = some n) (hln : X.env.kindOf n = some .local)
      (hsu : ∀ (a : Addr) (o0 : Obj) (cls : Value) (d : Option Addr) (pn : List (Addr × Obj)), Zc cls d o0 → (∃ vs, o0.data = .fields vs) → PSs (X.suite a ((a, o0) :: pn)) (b₀ :: suite) (ts a cls d)) (r : HdA X hds l) :
      HdA X (.ExceptHandler (some (.Name x np)) (some n) (b₀ :: suite) q0 :: hds) ((c, asW i ts) :: l)
section
variable {X : Cx} {body orelse : List Stmt} {h₀ : ExceptHandler} {hds : List ExceptHandler} {l : List (Value × Wc)} {pos : Pos} {tb : WX → TS} {Wout : WX} {u : TS}
end
end NL
namespace NQ
open PySem L2
/-! ### try with several clauses and an else -/
inductive Hx where
  | one (m : List (Str × Bool)) (G : Sf)
  | as (m : List (Str × Bool)) (fl : Str) (i : Nat) (G : Xn → Sf)
def hdM : List Hx → Xn → Dl → Ss
  | [], e, δ => some (.exc e, δ)
  | .one m G :: r, e, δ => match m.lookup e.cls with
    | some true => (match G δ with
      | some (.exc _, _) => none
      | r => r)
    | some false => hdM r e δ
    | none => none
  | .as m fl i G :: r, e, δ => match m.lookup e.cls with
    | some true => if e.fld = fl ∧ i < δ.length then (match G e (δ.set i (some e.val)) with
      | some (.exc _, _) => none
      | some (fl, δ2) => some (fl, δ2.set i none)
      | none => none) else none
    | some false => hdM r e δ
    | none => none
def sTryA (hs : List Hx) (F E : Sf) : Sf := fun δ => match F δ with
  | some (.exc e, δ') => hdM hs e δ'
  | some (.nx, δ') => E δ'
  | r => r
abbrev noWx : WX := fun _ _ _ _ => False
def tsAs (X : Cx) (c : Cf) (fl : Str) (i : Nat) (G : Xn → Sf) : NL.Wc := fun a cls dd => fun D σ H => ∃ (d : Addr) (e : Xn), cls = .ref (He.ga X.K e.cls) ∧ dd = some d ∧ XfC X.K (He.ga X.K e.cls) ∧ PySem.W.findIn X.K (.ref (He.ga X.K e.cls)) fl = some none ∧ SF X.K (c.xcAt i a d e.cls fl) noWx (G e) D σ H
inductive HdQ (X : Cx) (c : Cf) : List ExceptHandler → List (Value × NL.Wc) → List Hx → Prop
  | nil : HdQ X c [] [] []
  | one {x : Str} {cv : Value} {m : List (Str × Bool)} {G : Sf} {b₀ : Stmt} {suite : List Stmt} {np q0 : Pos} {hds : List ExceptHandler} {l : List (Value × NL.Wc)} {hs : List Hx} (hm : ExO X.K cv m) (hc : Names X x cv)
      (hsu : ∀ (a : Addr) (o0 : Obj) (pn : List (Addr × Obj)), PSs (X.suite a ((a, o0) :: pn)) (b₀ :: suite) (SF X.K c noWx G)) (r : HdQ X c hds l hs) :
      HdQ X c (.ExceptHandler (some (.Name x np)) none (b₀ :: suite) q0 :: hds) ((cv, fun _ _ _ => SF X.K c noWx G) :: l) (.one m G :: hs)
  | named {x n : Str} {fl : Str} {i : Nat} {cv : Value} {m : List (Str × Bool)} {G : Xn → Sf} {b₀ : Stmt} {suite : List Stmt} {np q0 : Pos} {hds : List ExceptHandler} {l : List (Value × NL.Wc)} {hs : List Hx} (hm : ExT X.K cv fl m) (hc : Names X x cv) (hi : X.N[i]? = some n) (hln : X.env.kindOf n = some .local)
      (hsu : ∀ (a d : Addr) (o0 : Obj) (e : Xn) (pn : List (Addr × Obj)), Zc (.ref (He.ga X.K e.cls)) (some d) o0 → (∃ vs, o0.data = .fields vs) → XfC X.K (He.ga X.K e.cls) → PySem.W.findIn X.K (.ref (He.ga X.K e.cls)) fl = some none → PSs (X.suite a ((a, o0) :: pn)) (b₀ :: suite) (SF X.K (c.xcAt i a d e.cls fl) noWx (G e)))
      (hsh : c.sh i = .fz) (hp : c.pr i = false) (r : HdQ X c hds l hs) :
      HdQ X c (.ExceptHandler (some (.Name x np)) (some n) (b₀ :: suite) q0 :: hds) ((cv, NL.asW i (tsAs X c fl i G)) :: l) (.as m fl i G :: hs)
section
variable {X : Cx} {c : Cf} {Wx : WX} {hds : List ExceptHandler} {l : List (Value × NL.Wc)} {hs : List Hx} {W : Addr → Prop} {Y : List Addr}
theorem HdQ.a (h : HdQ X c hds l hs) : NL.HdA X hds l := by
  induction h with
  | nil => exact .nil
  | one hm hc hsu r ih => exact .one hc (fun a oe cls dd pn _ _ => hsu a oe pn) ih
  | named hm hc hi hln hsu hsh hp r ih =>
    refine .named hc hi hln (fun a oe cls dd pn hz hv => ⟨fun pins s σ H D I h => ?_⟩) ih
    obtain ⟨d, e, rfl, rfl, h1, h2, h⟩ := h
    exact (hsu a d oe e pn hz hv h1 h2).run pins s σ H D I h
variable {body orelse : List Stmt} {h₀ : ExceptHandler} {pos : Pos} {F E : Sf} {K : PySem.W.Frag}
end
end NQ
namespace NQ
open PySem L2
/-! ### in a clause with a name: isinstance of the caught exception -/
def KtT (K : PySem.W.Frag) (cv : Value) : List (Str × Bool) → Prop
  | [] => True
  | (x, b) :: r => ExcC K (He.ga K x) ∧ PySem.W.kitOne K (.ref (He.ga K x)) cv = some b ∧ KtT K cv r
theorem KtT.at {K : PySem.W.Frag} {cv : Value} : ∀ {l : List (Str × Bool)} {x : Str} {b : Bool}, KtT K cv l → l.lookup x = some b → ExcC K (He.ga K x) ∧ PySem.W.kitOne K (.ref (He.ga K x)) cv = some b
  | [], _, _, _, h => by simp at h
  | (y, d) :: r, x, b, ⟨h1, h2, h3⟩, e => by
    rw [List.lookup_cons] at e
    split at e
    · rename_i q
      cases e
      rw [eq_of_beq q]
      exact ⟨h1, h2⟩
    · exact KtT.at h3 e
def isXq (i : Nat) (mk : List (Str × Bool)) (cl : Str) : Qf := fun δ => match dAt δ i, mk.lookup cl with
  | some _, some b => some (.bl b)
  | _, _ => none
section
variable {X : Cx} {K : PySem.W.Frag} {sh : Nat → Sh} {a d : Addr} {oe : Obj} {pn : List (Addr × Obj)} {cl fl y : Str} {o ce : Expr} {p pos : Pos} {mk : List (Str × Bool)}
end
end NQ
namespace NQ
open PySem L2
/-! ### walking rules of the younger combinators -/
section
variable {F G : Sf} {f g h : Dl → Rs} {u v w : Qf} {δ δ2 : Dl} {i j : Nat} {op op' : Op} {os : List Opd} {x y t : T} {ts us : List T} {gp : Gf} {its : Il} {cl : Str} {πf : Pf}
variable {N B C : Dl → Prop} {R : T → Dl → Prop} {E : Xn → Dl → Prop} {Q : T → Dl → Prop} {q : T → Prop} {QL : List T → Dl → Prop}
theorem ws_par2 (z : We (f δ) (fun t δ1 => We (g δ1) (fun u δ2 => Sd (i < δ2.length ∧ j < δ2.length) (Nm ((δ2.set i (some t)).set j (some u)) N)) E) E) : Ws (sPar2 i j f g δ) N B C R E := by
  unfold sPar2
  rcases we_c z with ⟨t0, d0, e0, z⟩ | ⟨t0, d0, e0, z⟩ <;> simp only [e0]
  rotate_left
  · exact z
  rcases we_c z with ⟨t1, d1, e1, hl, z⟩ | ⟨t1, d1, e1, z⟩ <;> simp only [e1]
  · simp only [hl, and_self, if_true]; exact z
  · exact z
/-- a path and what lies there -/
def Pw (r : Option (List Pt)) (P : List Pt → Prop) : Prop := ∃ π, r = some π ∧ P π
theorem pw_nil {P : List Pt → Prop} (z : P []) : Pw (pNil δ) P := ⟨_, rfl, z⟩
theorem pw_fld {c fl : Str} {P : List Pt → Prop} (z : Pw (πf δ) fun π => P (π ++ [.fld c fl])) : Pw (pFld πf c fl δ) P := by
  obtain ⟨π, e, z⟩ := z
  exact ⟨_, by unfold pFld; rw [e], z⟩
theorem pw_ix {P : List Pt → Prop} (z : Pw (πf δ) fun π => Wq (u δ) fun k => Is k T.int fun n => P (π ++ [.ix n])) : Pw (pIx πf u δ) P := by
  obtain ⟨π, e, z⟩ := z
  obtain ⟨k, e1, n, rfl, z⟩ := wq_ex z
  exact ⟨_, by unfold pIx; rw [e, e1], z⟩
theorem wq_ePq (z : Pw (πf δ) fun π => At δ i fun t => So (getP t π) q) : Wq (ePq i πf δ) q := by
  obtain ⟨π, e, t, e1, u, e2, z⟩ := z
  unfold ePq
  rw [e, e1]
  simp only [e2]
  exact z
theorem ws_mov (z : Pw (πf δ) fun π => At δ i fun t => So (getP t π) fun t' => Sd (j < δ.length) (Nm ((δ.set i none).set j (some t')) N)) : Ws (sMov i j πf δ) N B C R E := by
  obtain ⟨π, e, t, e1, u, e2, hl, z⟩ := z
  unfold sMov
  rw [e, e1]
  simp only [e2, hl, if_true]
  exact z
def Bk (i j : Nat) (n : Nat) (π : List Pt) (t : T) (P : Dl → Prop) : Dl → Prop := fun δ' => At δ' j fun w => So (setP t π w) fun t2 => Sd (i < δ'.length ∧ j < n) (Nm ((δ'.set j none).set i (some t2)) P)
theorem ws_bor (z : Pw (πf δ) fun π => At δ i fun t => So (getP t π) fun t' => Nm ((δ.set i none).set j (some t')) fun δ1 => Ws (G δ1) (Bk i j δ.length π t N) (Bk i j δ.length π t B) (Bk i j δ.length π t C) (fun r => Bk i j δ.length π t (R r)) (fun e => Bk i j δ.length π t (E e))) : Ws (sBor i j πf G δ) N B C R E := by
  obtain ⟨π, e, t, e1, t', e2, z⟩ := z
  unfold Nm at z
  try dsimp only at z
  unfold sBor
  rw [e, e1]
  simp only [e2]
  obtain ⟨fl, δ', e3, z⟩ := ws_c z
  simp only [e3]
  have key : ∀ {P : Dl → Prop}, Bk i j δ.length π t P δ' → ∃ w t2, dAt δ' j = some w ∧ setP t π w = some t2 ∧ (i < δ'.length ∧ j < δ.length) ∧ P ((δ'.set j none).set i (some t2)) := fun ⟨w, a1, t2, a2, a3, a4⟩ => ⟨w, t2, a1, a2, a3, a4⟩
  cases fl with
  | nx => obtain ⟨w, t2, a1, a2, a3, a4⟩ := key z; simp only [a1, a2, a3, and_self, if_true]; exact a4
  | brk => obtain ⟨w, t2, a1, a2, a3, a4⟩ := key z; simp only [a1, a2, a3, and_self, if_true]; exact a4
  | cont => obtain ⟨w, t2, a1, a2, a3, a4⟩ := key z; simp only [a1, a2, a3, and_self, if_true]; exact a4
  | ret r => obtain ⟨w, t2, a1, a2, a3, a4⟩ := key (P := R r) z; simp only [a1, a2, a3, and_self, if_true]; exact a4
  | exc r => obtain ⟨w, t2, a1, a2, a3, a4⟩ := key (P := E r) z; simp only [a1, a2, a3, and_self, if_true]; exact a4
theorem bk_mk {n : Nat} {π : List Pt} {P : Dl → Prop} (z : At δ j fun w => So (setP t π w) fun t2 => Sd (i < δ.length ∧ j < n) (Nm ((δ.set j none).set i (some t2)) P)) : Bk i j n π t P δ := z
def enS : T → Option (List T)
  | .lst ts => some ts
  | .tup ts => some ts
  | .ctup ts => some ts
  | _ => none
theorem wi_en2 (z : We (f δ) (fun t δ' => So (enS t) fun ts => QL (enT ts) δ') E) : Wi (itEn2 f δ) QL E := by
  unfold itEn2
  rcases we_c z with ⟨t0, d0, e0, ts, e1, z⟩ | ⟨t0, d0, e0, z⟩ <;> simp only [e0]
  · cases t0 <;> first | cases e1 | skip
    all_goals exact z
  · exact z
theorem mkn {o : T} {r : List T} {P : T → Prop} (z : P o) : T.non = .non ∧ ∃ o' r', o :: r = o' :: r' ∧ P o' := ⟨rfl, o, r, rfl, z⟩
theorem mthF {m : Str} {fs : List Str} {P : Prop} (hm : m ∉ fs) (z : P) : ∃ fs' ts', T.ins cl fs ts = .ins cl fs' ts' ∧ m ∉ fs' ∧ P := ⟨fs, ts, rfl, hm, z⟩
theorem insAt_c {cl : Str} {j : Nat} {js : List Nat} {ts : List T} {fs : List Str} {us : List T} (h : ts[j]? = some (.ins cl fs us)) (z : insAt cl js ts = true) : insAt cl (j :: js) ts = true := by
  unfold insAt
  rw [h]
  simp only [decide_true, Bool.true_and]
  exact z
theorem wi_z (z : We (f δ) (fun t δ1 => We (g δ1) (fun u δ' => So (zipT t u) fun ts => QL ts δ') E) E) : Wi (itZ f g δ) QL E := by
  unfold itZ
  rcases we_c z with ⟨t0, d0, e0, z⟩ | ⟨t0, d0, e0, z⟩ <;> simp only [e0]
  rotate_left
  · exact z
  rcases we_c z with ⟨t1, d1, e1, ts, e2, z⟩ | ⟨t1, d1, e1, z⟩ <;> simp only [e1]
  · simp only [e2]; exact z
  · exact z
theorem we_sp {js : List Nat} {ps : List Sh} {Ff : List T → Fo} (z : Wa os δ (fun ts δ' => Sd (insAt cl js ts = true) (Wf (Ff ts) (fun t l => Sd (l.length = ps.length) (Nm (wb ps (skO os) l δ') (Q t))) fun e l => Sd (l.length = ps.length) (Nm (wb ps (skO os) l δ') (E e)))) E) : We (fSp cl js ps Ff os δ) Q E := by
  unfold fSp
  rcases wa_c z with ⟨l0, d0, ts0, e1, e2, h, z⟩ | ⟨t0, d0, e1, z⟩
  · simp only [e1, e2, h, if_true]
    rcases wf_or z with ⟨t, l, e3, h, z⟩ | ⟨t, l, e3, h, z⟩
    · simp only [e3, h, if_true]; exact z
    · simp only [e3, h, if_true]; exact z
  · simp only [e1]; exact z
theorem ws_setO {ps : List Sh} {Ff : List T → Fo} (z : We (f δ) (fun t δ1 => At δ1 i fun o => Wq (u δ1) fun k => Sd (∃ fs us, o = .ins cl fs us) (Wf (Ff [o, k, t]) (fun r l => Sd (l.length = ps.length) (So l.head? fun o' => Nm (δ1.set i (some o')) N)) fun e l => Sd (l.length = ps.length) (So l.head? fun o' => Nm (δ1.set i (some o')) (E e)))) E) : Ws (sSetO cl ps Ff i u f δ) N B C R E := by
  unfold sSetO
  rcases we_c z with ⟨t0, d0, e0, o, e1, z⟩ | ⟨t0, d0, e0, z⟩ <;> simp only [e0]
  rotate_left
  · exact z
  obtain ⟨k, e2, ⟨fs, us, rfl⟩, z⟩ := wq_ex z
  simp only [e1, e2, if_true]
  rcases wf_or z with ⟨t, l, e3, hl, o', ho, z⟩ | ⟨t, l, e3, hl, o', ho, z⟩
  · cases l with
    | nil => cases ho
    | cons a r => cases ho; simp only [e3, hl, if_true]; exact z
  · cases l with
    | nil => cases ho
    | cons a r => cases ho; simp only [e3, hl, if_true]; exact z
theorem wq_notV (z : Wq (u δ) fun t => Wt (truW t) fun b => q (.bl (!b))) : Wq (notV u δ) q := by
  unfold notV
  obtain ⟨t, e, z⟩ := wq_ex z
  obtain ⟨b, e1, z⟩ := wt_ex z
  simp only [e, e1]; exact z
theorem we_notW (z : We (f δ) (fun t δ' => Wt (truW t) fun b => Q (.bl (!b)) δ') E) : We (notW f δ) Q E := by
  unfold notW
  rcases we_c z with ⟨t0, d0, e0, z⟩ | ⟨t0, d0, e0, z⟩ <;> simp only [e0]
  · obtain ⟨b, e1, z⟩ := wt_ex z
    simp only [e1]; exact z
  · exact z
theorem we_tupRg (z : We (f δ) (fun t δ' => Is t T.int fun n => Sd (0 ≤ n ∧ n ≤ 16777216) (Q (.tup (rgT 0 n)) δ')) E) : We (tupRg f δ) Q E := by
  unfold tupRg
  rcases we_c z with ⟨t0, d0, e0, z⟩ | ⟨t0, d0, e0, z⟩ <;> simp only [e0]
  · obtain ⟨n, rfl, hl, z⟩ := z
    simp only [hl, and_self, if_true]; exact z
  · exact z
theorem we_lstRg (z : We (f δ) (fun t δ' => Is t T.int fun n => Sd (0 ≤ n ∧ n ≤ 16777216) (Q (.lst (rgT 0 n)) δ')) E) : We (lstRg f δ) Q E := by
  unfold lstRg
  rcases we_c z with ⟨t0, d0, e0, z⟩ | ⟨t0, d0, e0, z⟩ <;> simp only [e0]
  · obtain ⟨n, rfl, hl, z⟩ := z
    simp only [hl, and_self, if_true]; exact z
  · exact z
theorem we_ch (z : We (f δ) (fun x δ1 => We (g δ1) (fun y δ2 => Wq (op [x, y]) fun c => Is c T.bl fun k => if k = true then Wq (w δ2) (fun z => Wq (op' [y, z]) fun r => Q r δ2) else Q (.bl false) δ2) E) E) : We (chE op op' f g w δ) Q E := by
  unfold chE
  rcases we_c z with ⟨t0, d0, e0, z⟩ | ⟨t0, d0, e0, z⟩ <;> simp only [e0]
  rotate_left
  · exact z
  rcases we_c z with ⟨t1, d1, e1, z⟩ | ⟨t1, d1, e1, z⟩ <;> simp only [e1]
  rotate_left
  · exact z
  obtain ⟨c, e2, k, rfl, z⟩ := wq_ex z
  simp only [e2]
  cases k
  · exact z
  · rw [if_pos rfl] at z
    obtain ⟨a, e3, z⟩ := wq_ex z
    obtain ⟨r, e4, z⟩ := wq_ex z
    simp only [e3, e4]; exact z
theorem we_makeK {Ff : List T → Fo} {gT : List T → List T} (z : Wa os δ (fun us δ' => Wf (Ff (.ins cl [] [] :: gT us)) (fun t l => t = .non ∧ ∃ o r, l = o :: r ∧ Q o δ') fun e _ => E e δ') E) : We (fMakeK cl Ff gT os δ) Q E := by
  unfold fMakeK
  rcases wa_c z with ⟨l0, d0, ts0, e1, e2, z⟩ | ⟨t0, d0, e1, z⟩
  · simp only [e1, e2]
    rcases wf_or z with ⟨t, l, e3, rfl, o, r, rfl, z⟩ | ⟨t, l, e3, z⟩
    · simp only [e3]; exact z
    · simp only [e3]; exact z
  · simp only [e1]; exact z
theorem we_cm {ps : List Sh} {Ff : List T → Fo} (z : Wq (u δ) fun t => Sd (t = .gl cl) (We (fCall ps Ff (.val (qE u) :: os) δ) Q E)) : We (fCM cl ps Ff u os δ) Q E := by
  unfold fCM
  obtain ⟨t, e, rfl, z⟩ := wq_ex z
  simp only [e, if_true]; exact z
theorem ws_forK (z : We (f δ) (fun t δ' => So (itK t) fun ts => Ws (forM ts gp F δ') N B C R fun _ _ => False) E) : Ws (sForK f gp F δ) N B C R E := by
  unfold sForK
  rcases we_c z with ⟨t0, d0, e0, ts, e1, z⟩ | ⟨t0, d0, e0, z⟩ <;> simp only [e0]
  rotate_left
  · exact z
  simp only [e1]
  obtain ⟨fl, δ', e2, z⟩ := ws_c z
  rw [e2]
  cases fl <;> first | exact z | exact z.elim
def Wo (os : List (Sh × Oo)) (δ : Dl) (QL : List T → Dl → Prop) (E : Xn → Dl → Prop) : Prop := Wi (runO os δ) QL E
theorem wo_nil (z : QL [] δ) : Wo [] δ QL E := z
theorem wo_new {s : Sh} {r : List (Sh × Oo)} (z : We (f δ) (fun t δ1 => Wo r δ1 (fun ts δ' => QL (t :: ts) δ') E) E) : Wo ((s, .new f) :: r) δ QL E := by
  unfold Wo runO
  rcases we_c z with ⟨t0, d0, e0, z⟩ | ⟨t0, d0, e0, z⟩ <;> simp only [e0]
  rotate_left
  · exact z
  rcases wi_c z with ⟨t1, d1, e1, z⟩ | ⟨t1, d1, e1, z⟩ <;> simp only [e1] <;> exact z
theorem wo_mov {s : Sh} {r : List (Sh × Oo)} (e : dAt δ i = some x) (z : Nm (δ.set i none) fun δ1 => Wo r δ1 (fun ts δ' => QL (x :: ts) δ') E) : Wo ((s, .mov i) :: r) δ QL E := by
  unfold Nm at z
  try dsimp only at z
  unfold Wo runO
  simp only [e]
  rcases wi_c z with ⟨t1, d1, e1, z⟩ | ⟨t1, d1, e1, z⟩ <;> simp only [e1] <;> exact z
theorem we_lstO {os : List (Sh × Oo)} (z : Wo os δ (fun ts δ' => Sd (ts.length ≤ 16777216) (Q (.lst ts) δ')) E) : We (fLstO os δ) Q E := by
  unfold fLstO
  rcases wi_c z with ⟨t1, d1, e1, hl, z⟩ | ⟨t1, d1, e1, z⟩ <;> simp only [e1]
  · rw [if_pos (by rw [sz_eq]; exact hl)]; exact z
  · exact z
theorem we_callT {Ff : List T → Fo} (z : We (f δ) (fun t δ' => Wf (Ff [t]) (fun r _ => Q r δ') fun e _ => E e δ') E) : We (fCallT Ff f δ) Q E := by
  unfold fCallT
  rcases we_c z with ⟨t0, d0, e0, z⟩ | ⟨t0, d0, e0, z⟩ <;> simp only [e0]
  rotate_left
  · exact z
  rcases wf_or z with ⟨t, l, e3, z⟩ | ⟨t, l, e3, z⟩ <;> simp only [e3] <;> exact z
theorem ws_tryA {hs : List Hx} (z : Ws (F δ) (fun δ' => Ws (G δ') N B C R E) B C R fun e δ' => Ws (hdM hs e δ') N B C R E) : Ws (sTryA hs F G δ) N B C R E := by
  unfold sTryA
  obtain ⟨fl, δ', e, z⟩ := ws_c z
  rw [e]
  cases fl <;> exact z
theorem ws_hdN {e : Xn} (z : E e δ) : Ws (hdM [] e δ) N B C R E := z
theorem ws_hd1 {e : Xn} {m : List (Str × Bool)} {H : Sf} {hs : List Hx} (z : So (m.lookup e.cls) fun b => if b = true then Ws (H δ) N B C R fun _ _ => False else Ws (hdM hs e δ) N B C R E) : Ws (hdM (.one m H :: hs) e δ) N B C R E := by
  obtain ⟨b, e1, z⟩ := z
  unfold hdM
  simp only [e1]
  cases b with
  | false => exact z
  | true =>
    rw [if_pos rfl] at z
    obtain ⟨fl, δ', e2, z⟩ := ws_c z
    simp only [e2]
    cases fl <;> first | exact z | exact z.elim
theorem ws_hdA {e : Xn} {m : List (Str × Bool)} {fl : Str} {H : Xn → Sf} {hs : List Hx} (z : So (m.lookup e.cls) fun b => if b = true then Sd (e.fld = fl ∧ i < δ.length) (Nm (δ.set i (some e.val)) fun δ2 => Ws (H e δ2) (fun δ2 => Nm (δ2.set i none) N) (fun δ2 => Nm (δ2.set i none) B) (fun δ2 => Nm (δ2.set i none) C) (fun t δ2 => Nm (δ2.set i none) (R t)) fun _ _ => False) else Ws (hdM hs e δ) N B C R E) : Ws (hdM (.as m fl i H :: hs) e δ) N B C R E := by
  obtain ⟨b, e1, z⟩ := z
  unfold hdM
  simp only [e1]
  cases b with
  | false => exact z
  | true =>
    rw [if_pos rfl] at z
    obtain ⟨h2, z⟩ := z
    unfold Nm at z
    try dsimp only at z
    simp only [h2, and_self, if_true]
    obtain ⟨fl', δ', e2, z⟩ := ws_c z
    simp only [e2]
    cases fl' <;> first | exact z | exact z.elim
theorem wq_isX {mk : List (Str × Bool)} {c : Str} (z : At δ i fun _ => So (mk.lookup c) fun b => q (.bl b)) : Wq (isXq i mk c δ) q := by
  obtain ⟨t, e, b, e1, z⟩ := z
  unfold isXq
  rw [e, e1]
  exact z
theorem wo_ix_dt {ks : List (List Key)} {kk : List Key} (h : keysT us = some kk) (e : lookT ks ts kk = some y) (z : q y) : Wq (ixA [.dit ks ts, .tup us]) q := by
  have e1 : ixR [.dit ks ts, .tup us] = none := rfl
  have e2 : ixA [.dit ks ts, .tup us] = some y := by
    simp only [ixA, altT, ixR, ixD, dgetR, dgetD, dlook, h, e]
    cases hs : y.isS <;> simp [hs]
  rw [e2]; exact z
end
end NQ
namespace NQ
open PySem L2
/-- a list told by a function -/
def rg {α : Type} (n : Nat) (f : Nat → α) : List α := (List.range n).map f
section
variable {α β : Type} {n i : Nat} {f g : Nat → α}
theorem rg_len : (rg n f).length = n := by unfold rg; simp
end
theorem eqB_bb {a b : Bool} : eqB (.bl a) (.bl b) = some (decide (a = b)) := by cases a <;> cases b <;> decide +kernel
theorem atI2 {α : Type} {a b c : α} {r : List α} : atI (a :: b :: c :: r) 2 = some c := (atI_nat (n := 2) (by simp)).trans rfl
theorem atI3 {α : Type} {a b c d : α} {r : List α} : atI (a :: b :: c :: d :: r) 3 = some d := (atI_nat (n := 3) (by simp)).trans rfl
theorem atI4 {α : Type} {a b c d e : α} {r : List α} : atI (a :: b :: c :: d :: e :: r) 4 = some e := (atI_nat (n := 4) (by simp)).trans rfl
end NQ
namespace NL
open PySem PySem.Spec PyProof.Rows L2
/-! ### a == b by an own class's __eq__ -/
section
variable {X : Cx} {k : Nat} {C : Addr} {a b : Expr} {ta tb : TE} {pos : Pos} {ps : List Str} {sp : Sp} {W : WX}
end
end NL
namespace NQ
open PySem L2
section
variable {X : Cx} {K : PySem.W.Frag} {sh : Nat → Sh} {Wx : WX} {ps : List Sh} {rs : Sh} {F : List T → Fo} {o1 o2 : Opd} {cl : Str} {k : Nat} {o i a b e : Expr} {params : List Str} {pos : Pos}
end
end NQ
namespace NQ
open PySem L2
/-! ### tuples joined, both frozen -/
def addU : Op
  | [.tup xs, .tup ys] => if xs.length + ys.length ≤ sizeLine then some (.tup (xs ++ ys)) else none
  | _ => none
section
variable {X : Cx} {K : PySem.W.Frag} {sh : Nat → Sh} {Wx : WX} {e a b : Expr} {es : List Expr} {r : List V → Hp → VK → Prop} {op : Op} {l : List (Md × Qf)} {pos : Pos}
theorem wo_addU {xs ys : List T} {q : T → Prop} (h : xs.length + ys.length ≤ 16777216) (z : q (.tup (xs ++ ys))) : Wq (addU [.tup xs, .tup ys]) q := by
  have e : addU [.tup xs, .tup ys] = some (.tup (xs ++ ys)) := by
    show (if xs.length + ys.length ≤ sizeLine then some (T.tup (xs ++ ys)) else none) = _
    rw [if_pos (by rw [sz_eq]; exact h)]
  rw [e]; exact z
end
end NQ
namespace NQ
open PySem L2
/-! ### the kind of a wish, asked before its rules are tried -/
theorem g_ws {r : Ss} {N B C : Dl → Prop} {R : T → Dl → Prop} {E : Xn → Dl → Prop} (h : Ws r N B C R E) : Ws r N B C R E := h
theorem g_we {r : Rs} {Q : T → Dl → Prop} {E : Xn → Dl → Prop} (h : We r Q E) : We r Q E := h
theorem g_wq {r : Option T} {Q : T → Prop} (h : Wq r Q) : Wq r Q := h
theorem g_wqo {op : Op} {ts : List T} {Q : T → Prop} (h : Wq (op ts) Q) : Wq (op ts) Q := h
theorem g_wt {r : Option Bool} {Q : Bool → Prop} (h : Wt r Q) : Wt r Q := h
end NQ
namespace NL
open PySem PySem.Spec PyProof.Rows L2
/-! ### defs that are promised only where no repr runs around them: these may call repr -/
structure FnOkG (P : Program) (w : World) (K : PySem.W.Frag) (mg : Str → Option Value) (base : Heap) (CX : CXT) (k : Nat) (f : Addr) (fd : FuncData) (ps : List Str) (sp : Sp) : Prop where
  len : ∀ vs H Q E, sp vs H Q E → vs.length = ps.length
  run : ∀ (A : Around) (outer : List Env) (s : Shared) (H : Hp) (args : Args) (us : List Value) (vs : List V) (Q : VK) (E : XK), A.guards = some [] → Room k A → Env0 P w K mg base A outer s H → BindsTo s fd args (ps.zip us) → Vals vs us → sp vs H Q E →
    codeAny (model P w) A (.call (.ref f) args) (CR CX outer P w H s Q E) s
theorem FunD.okG {P : Program} {w : World} {K : PySem.W.Frag} {mg : Str → Option Value} {base : Heap} {x qual : Str} {params : Arguments} {body : List Stmt} {scope : Scope} {dvs : List V} {kws : List (Str × V)} {f : Addr} {fd : FuncData} {CX : CXT} {N ps : List Str} {k : Nat} {sp : Sp}
    (F : FunD K x qual params body scope dvs kws f fd) (S : FnScope N ps scope) (len : ∀ vs H Q E, sp vs H Q E → vs.length = ps.length)
    (hbody : ∀ (cdv : Value) (A : Around) (outer : List Env) (s : Shared) (H : Hp) (vs : List V) (Q : VK) (E : XK), A.guards = some [] → Room k (A.deeper (envOfC qual scope s.heap.objs.size f cdv)) → sp vs H Q E →
      ∃ t, PSs (cxOf CX P w K mg base N qual scope f cdv A outer s H E) body t ∧ t { nx := fun _ H' => Q .non H', rt := Q } (start N vs) H) : FnOkG P w K mg base CX (k + 1) f fd ps sp := by
  obtain ⟨oc, od, dV, kV, doc, pm, an, cdv, ct, osl, rfl, lk, hcd, _, _⟩ := F.ex
  refine ⟨len, fun A outer s H args us vs Q E hG hr e0 hb r h => ?_⟩
  have hl : vs.length = ps.length := len _ _ _ _ h
  refine StX.run_bnd lk hcd S hr e0 (G := fun xs H2 => xs = vs ∧ H2 = H) (fun A' Ex Q' hq => hb _ _ _ _ (hq s H vs us e0 Un.refl rfl (fun _ _ z => z) r hl ⟨rfl, rfl⟩)) fun s2 H2 xs ⟨ex, eH⟩ hr' => ?_
  subst ex eH
  exact hbody cdv A outer s2 _ _ Q E hG hr' h
structure CalG (P : Program) (w : World) (K : PySem.W.Frag) (mg : Str → Option Value) (base : Heap) (k : Nat) (x : Str) (ps : List Str) (sp : Sp) : Prop where
  ex : ∃ f fd, mg x = some (.ref f) ∧ PySem.W.keepIn K (.ref f) = true ∧ Binds K fd ps [] ∧ FnOkG P w K mg base (L2.CX P w) k f fd ps sp
section
variable {X : Cx} {W : WX} {k : Nat} {ps : List Str} {sp : Sp} {x : Str} {e : Expr} {es : List Expr} {t : TA} {p pos : Pos}
end
/-! ### repr of data -/
/-! ### the end for such a law -/
theorem law_callG {P : Program} {w : World} {K : PySem.W.Frag} {mg mb : Str → Option Value} {CX : CXT} {k : Nat} {fa a : Addr} {fd : FuncData} {x : Str} {sp : Sp} {s₁ : Shared} {vs : List Value} {ns : List Int}
    (KX : K.In s₁.heap) (hns : s₁.heap.Ns mainGlobals mg) (hb : s₁.heap.Ns builtinsNs mb) (hbb : ∀ x : Str, x ≠ "__name__" → mb x = bootBuiltins x) (hlim : s₁.heap.NoLimit) (hg : s₁.gens = #[])
    (ha : s₁.heap.get? a = some { cls := .type "list", data := .seq vs.toArray }) (hi : IntsAre vs ns) (hl : ns.length ≤ sizeLine) (hr : Room k callerA)
    (F : ∀ base : Heap, K.In base → base.Ns mainGlobals mg → FnOkG P w K mg base CX k fa fd [x] sp) (hbind : ∀ (s : Shared) (u : Value), BindsTo s fd ⟨[u], []⟩ [(x, u)])
    (hsp : ∀ H : Hp, SqL K H a (ns.map V.int) → sp [.ref a] H (fun v _ => v = .bl true) fun _ _ _ => False)
    (hCX : ∀ H e s', CX [] H s₁ (fun _ _ _ => False) e s' → False) :
    codeAny (model P w) callerA (.call (.ref fa) ⟨[.ref a], []⟩) (fun r s' => r = .ok (.ret (.bool true)) ∧ OldK s₁.heap s'.heap ∧ s'.os = s₁.os ∧ AllBare s'.gens) s₁ := by
  have rv := vals_ints hi
  have lenV := hi.length
  have core : ∀ H : Hp, Only H → SqL K H a (ns.map V.int) → HOk P w H s₁.heap → (∀ b, H b ≠ none → b = a) → (H a ≠ none → K.lookup a = none) →
      codeAny (model P w) callerA (.call (.ref fa) ⟨[.ref a], []⟩) (fun r s' => r = .ok (.ret (.bool true)) ∧ OldK s₁.heap s'.heap ∧ s'.os = s₁.os ∧ AllBare s'.gens) s₁ := by
    intro H hO hS hok hA hK
    have base_of : ∀ {b : Addr} {o : Obj}, s₁.heap.get? b = some o → H b = none → (hidT s₁.heap H).get? b = some o := fun e n => hidT_get e n
    have noA : ∀ {b : Addr} {o : Obj} {es : Array DictEntry} {ep : Nat}, s₁.heap.get? b = some o → o.data = .dict es ep → H b = none := fun {b o es ep} e d => by
      cases q : H b with
      | none => rfl
      | some u =>
        have e' : b = a := hA b (by rw [q]; simp)
        subst e'
        rw [ha] at e; cases e
        have d' : Data.seq vs.toArray _ = Data.dict es ep := d
        cases d'
    have nsK : ∀ {b : Addr} {m : Str → Option Value}, s₁.heap.Ns b m → (hidT s₁.heap H).Ns b m := fun {b m} ⟨o, es, ep, e, d, r⟩ => ⟨o, es, ep, base_of e (noA e d), d, r⟩
    have hKb : K.In (hidT s₁.heap H) := fun b o e => base_of (KX b o e) (by
      cases q : H b with
      | none => rfl
      | some u =>
        have e' : b = a := hA b (by rw [q]; simp)
        subst e'
        rw [hK (by rw [q]; simp)] at e; cases e)
    have hM : Mod K mg (hidT s₁.heap H) := ⟨hKb, nsK hns, ⟨mb, nsK hb, hbb⟩, let ⟨mc, h1, h2⟩ := hlim; ⟨mc, nsK h1, h2⟩⟩
    have e0 : Env0 P w K mg (hidT s₁.heap H) callerA [] s₁ H := ⟨rfl, hM, fun b o e => of_hidT e, Nat.le_of_eq (hidT_size _ _), trivial, fun b hb => absurd (show b ∈ ([] : List Addr) from hb) (by simp), hok, .of_eq hg⟩
    refine codeAny_mono ((F _ hKb (nsK hns)).run callerA [] s₁ H ⟨[.ref a], []⟩ [.ref a] [.ref a] _ _ rfl hr e0 (hbind s₁ (.ref a)) (.cons rfl .nil) (hsp H hS)) fun r s' h => ?_
    cases r with
    | error e => exact (hCX H e s' h).elim
    | ok fl =>
      cases fl with
      | next => exact False.elim h
      | brk => exact False.elim h
      | cont => exact False.elim h
      | ret u =>
        obtain ⟨v, H', os, bare, un, hok', r', q⟩ := h
        have q' : v = .bl true := q
        subst q'
        obtain rfl : u = Value.bool true := r'
        refine ⟨rfl, OldK.of_keep fun b o e => ?_, os, bare⟩
        cases q : H b with
        | none => exact un.keep b o e q (by intro z; exact absurd (show b ∈ ([] : List Addr) from z) (by simp)) (by simp)
        | some u =>
          rcases hO b with z | ⟨ob, xs, z⟩
          · rw [q] at z; cases z
          · have z2 := un.frzs b ob _ z
            obtain ⟨e1, _⟩ := hok b _ z
            obtain ⟨e2, _⟩ := hok' b _ z2
            rw [e] at e1; cases e1
            exact e2
  cases hk : K.lookup a with
  | some o =>
    have e := KX a o hk
    rw [ha] at e
    cases e
    refine core (fun _ => none) (fun _ => .inl rfl) (.inr ⟨_, vs.toArray, _, hk, rfl, rfl, rfl, by rw [List.size_toArray, lenV]; exact hl, by simpa using rv⟩) (fun b u z => by have z' : (none : Option HO) = some u := z; cases z') (fun b z => absurd rfl z) fun z => absurd rfl z
  | none =>
    refine core (fun b => if b = a then some (.frz { cls := .type "list", data := .seq vs.toArray } (.lst (ns.map V.int))) else none) (fun b => ?_) (.inl (.inr ⟨{ cls := .type "list", data := .seq vs.toArray }, if_pos rfl⟩)) (fun b u z => ?_) (fun b z => ?_) fun _ => hk
    · by_cases hb : b = a
      · exact .inr ⟨_, _, if_pos hb⟩
      · exact .inl (if_neg hb)
    · by_cases hb : b = a
      · have z' := (if_pos hb).symm.trans z
        cases z'
        subst hb
        exact ⟨ha, by rw [List.length_map]; exact hl, vs, _, rv, ha⟩
      · have z' := (if_neg hb).symm.trans z
        cases z'
    · by_cases hb : b = a
      · exact hb
      · exact absurd (if_neg hb) z
theorem walkG {l : PySem.W.OpenLaw} {n k : Nat} {q : Program} {loose : List Str} {XP : (Str → Option Value) → Heap → Prop} {YP : World → Heap → Prop} {d : DefRec} {CX : World → CXT} {x : Str}
    (hn : l.most = some n) (hn2 : n ≤ sizeLine) (hdf : d.params.defaults = []) (hr : Room k callerA)
    (F : ∀ (w : World) (mg : Str → Option Value) (fa : Addr) (h : Heap), YP w h → h.Ns mainGlobals mg → mg d.name = some (.ref fa) → ∃ K : PySem.W.Frag, K.In h ∧ ∃ (fd : FuncData) (sp : Sp), (∀ (s : Shared) (u : Value), BindsTo s fd ⟨[u], []⟩ [(x, u)]) ∧
      (∀ (H : Hp) (a : Addr) (ns : List Int), ns.length ≤ n → (∀ z ∈ ns, Builtin.Int.intBits z ≤ 1048576) → SqL K H a (ns.map V.int) → sp [.ref a] H (fun v _ => v = .bl true) fun _ _ _ => False) ∧
      ∀ base : Heap, K.In base → base.Ns mainGlobals mg → FnOkG l.prog w K mg base (CX w) k fa fd [x] sp)
    (hCX : ∀ (w : World) (H : Hp) (s : Shared) (e : Value) (s' : Shared), CX w [] H s (fun _ _ _ => False) e s' → False) :
    PySem.W.WalkO q loose XP YP l.row.toRowW d [] (fun f vs => PySem.call f vs) := by
  refine Att.attach_callB hn hdf fun w s₀ s₁ mg mb fa o pm cd doc a vs ns G Y ho hd hcd hmg hobj hints hlen hbits hg => ?_
  obtain ⟨K, KX, fd, sp, hb, hsp, hF⟩ := F w mg fa _ Y G.T.g hmg
  exact law_callG KX G.T.g G.T.b G.T.builtins G.T.nolimit hg hobj hints (Nat.le_trans hlen hn2) hr hF hb (fun H hS => hsp H a ns hlen hbits hS) fun H e s' => hCX w H s₁ e s'
end NL
namespace NQ
open PySem L2
/-! ### repr of data -/
section
variable {X : Cx} {K : PySem.W.Frag} {a b : Expr} {p pos : Pos}
end
/-! ### calls of defs that are promised only where no repr runs around them -/
section
variable {X : Cx} {K : PySem.W.Frag} {sh : Nat → Sh} {Wx : WX} {ps : List Sh} {rs : Sh} {F : List T → Fo} {os : List Opd} {k : Nat} {x : Str} {e : Expr} {es : List Expr} {params : List Str} {p pos : Pos}
end
end NQ
namespace NQ
open PySem L2 StX
/-! ### a, b, *rest = a list -/
section
variable {X : Cx} {K : PySem.W.Frag} {c : Cf} {Wx : WX} {e : Expr} {es : List Expr} {pos tp p : Pos} {f : Dl → Rs} {g : Gf} {gs : Gfs} {ns : List Nat} {k0 : Nat}
end
/-! ### [a, b, *xs] -/
inductive PSt (X : Cx) : List Expr → List TE → TE → Prop
  | last {e : Expr} {t : TE} {p : Pos} : PE X e t → starEach [.Starred e p] X.env = (true, eval e X.env) :: starEach [] X.env → PSt X [.Starred e p] [] t
  | cons {e : Expr} {es : List Expr} {t : TE} {ts : List TE} {u : TE} : PE X e t → PSt X es ts u → starEach (e :: es) X.env = (false, eval e X.env) :: starEach es X.env → PSt X (e :: es) (t :: ts) u
theorem PSt.l {X : Cx} {e : Expr} {t : TE} {p : Pos} (h : PE X e t) (hs : starEach [.Starred e p] X.env = (true, eval e X.env) :: starEach [] X.env := by rfl) : PSt X [.Starred e p] [] t := .last h hs
theorem PSt.c {X : Cx} {e : Expr} {es : List Expr} {t : TE} {ts : List TE} {u : TE} (h : PE X e t) (r : PSt X es ts u) (hs : starEach (e :: es) X.env = (false, eval e X.env) :: starEach es X.env := by rfl) : PSt X (e :: es) (t :: ts) u := .cons h r hs
def tAllS (K : PySem.W.Frag) : List TE → TE → TA
  | [], u => tStar K u tNil
  | t :: ts, u => tCons t (tAllS K ts u)
theorem PSt.pa {X : Cx} : ∀ {es : List Expr} {ts : List TE} {u : TE}, PSt X es ts u → PA X es (tAllS X.K ts u)
  | _, _, _, .last h hs => pa_star h pa_nil hs
  | _, _, _, .cons h r hs => pa_cons h r.pa hs
section
variable {X : Cx} {K : PySem.W.Frag} {sh : Nat → Sh} {Wx : WX} {es : List Expr} {os : List Opd} {f : Dl → Rs} {pos : Pos}
theorem DfL.snoc {G : Addr → Prop} {H : Hp} {z : T} : ∀ {ts : List T} {xs : List V}, DfL K G H xs (ts ++ [z]) → ∃ ys v, xs = ys ++ [v] ∧ DfL K G H ys ts ∧ Df K G H v z
  | [], _, .cons h .nil => ⟨[], _, rfl, .nil, h⟩
  | t :: ts, _, .cons h r => by
    obtain ⟨ys, v, rfl, h1, h2⟩ := DfL.snoc r
    exact ⟨_ :: ys, v, rfl, .cons h h1, h2⟩
end
end NQ
namespace NQ
open PySem L2 StX
/-! ### walking over star targets and star displays -/
/-! ### repr of data: small enough, and text -/
theorem digitChar_ok {c : Nat} : ∀ x ∈ (Nat.toDigits 16 c).map Char.toNat, x < 0x110000 := fun x hx => by
  obtain ⟨ch, _, rfl⟩ := List.mem_map.mp hx
  have h := ch.valid
  show ch.val.toNat < 0x110000
  rcases h with h | h
  · exact Nat.lt_trans h (by decide)
  · exact h.2
theorem reprChar_sok {q c : Nat} (hc : c < 0x110000) : ∀ x ∈ PySem.Builtin.Str.reprChar q c, x < 0x110000 := by
  intro x hx
  have hd := @digitChar_ok c
  have hhex : ∀ w : Nat, x ∈ (List.replicate (w - ((Nat.toDigits 16 c).map Char.toNat).length) 48 ++ (Nat.toDigits 16 c).map Char.toNat) → x < 0x110000 := fun w h => by
    rcases List.mem_append.mp h with h | h
    · rw [List.eq_of_mem_replicate h]; decide
    · exact hd x h
  unfold PySem.Builtin.Str.reprChar at hx
  dsimp only at hx
  split at hx
  · simp only [List.mem_cons, List.not_mem_nil, or_false] at hx
    rcases hx with rfl | rfl
    · decide
    · exact hc
  split at hx
  · simp only [List.mem_cons, List.not_mem_nil, or_false] at hx
    rcases hx with rfl | rfl <;> decide
  split at hx
  · simp only [List.mem_cons, List.not_mem_nil, or_false] at hx
    rcases hx with rfl | rfl <;> decide
  split at hx
  · simp only [List.mem_cons, List.not_mem_nil, or_false] at hx
    rcases hx with rfl | rfl <;> decide
  split at hx
  · rw [List.mem_singleton.mp hx]; exact hc
  split at hx
  · rcases List.mem_append.mp hx with hx | hx
    · simp only [List.mem_cons, List.not_mem_nil, or_false] at hx
      rcases hx with rfl | rfl <;> decide
    · exact hhex _ hx
  split at hx
  · rcases List.mem_append.mp hx with hx | hx
    · simp only [List.mem_cons, List.not_mem_nil, or_false] at hx
      rcases hx with rfl | rfl <;> decide
    · exact hhex _ hx
  · rcases List.mem_append.mp hx with hx | hx
    · simp only [List.mem_cons, List.not_mem_nil, or_false] at hx
      rcases hx with rfl | rfl <;> decide
    · exact hhex _ hx
theorem fold_sok {q : Nat} : ∀ (l : List Nat) (acc : Array Nat), (∀ c ∈ l, c < 0x110000) → (∀ c ∈ acc.toList, c < 0x110000) → ∀ c ∈ (l.foldl (fun out c => out ++ (PySem.Builtin.Str.reprChar q c).toArray) acc).toList, c < 0x110000
  | [], acc, _, h => h
  | c :: r, acc, hl, h => by
    refine fold_sok r _ (fun d hd => hl d (List.mem_cons_of_mem _ hd)) fun d hd => ?_
    rw [Array.toList_append] at hd
    rcases List.mem_append.mp hd with hd | hd
    · exact h d hd
    · exact reprChar_sok (hl c (List.mem_cons_self ..)) d (by simpa using hd)
theorem reprText_sok {x : Str} (h : PyData.strOk x = true) : PyData.strOk (reprText x) = true := by
  refine sok_iff.mpr fun c hc => ?_
  have hq : reprQuote x < 0x110000 := by unfold reprQuote; split <;> decide
  unfold reprText at hc
  have hc : c ∈ ((x.cps.foldl (fun out c => out ++ (PySem.Builtin.Str.reprChar (reprQuote x) c).toArray) #[reprQuote x]).push (reprQuote x)).toList := hc
  rw [Array.toList_push] at hc
  rcases List.mem_append.mp hc with hc | hc
  · rw [← Array.foldl_toList] at hc
    exact fold_sok x.cps.toList _ (sok_iff.mp h) (fun d hd => by simp at hd; rw [hd]; exact hq) c hc
  · rw [List.mem_singleton.mp hc]; exact hq
/-- data whose repr may be taken: n deep, of the weight w -/
structure RpD (n w : Nat) (d : PyData) : Prop where
  sh : d.showable = true
  nd : d.hasDict = false
  dp : d.depth ≤ n
  lv : d.leavesShort 40 = true
  wt : d.weight ≤ w
  ok : PyData.strOk d.shown = true
theorem RpD.none {n w : Nat} : RpD n w .none := ⟨rfl, rfl, Nat.zero_le _, rfl, Nat.zero_le _, by rw [PyData.shown_none]; exact sok_of _⟩
theorem RpD.bool {n w : Nat} {b : Bool} : RpD n w (.bool b) := ⟨rfl, rfl, Nat.zero_le _, rfl, Nat.zero_le _, by rw [PyData.shown_bool]; cases b <;> exact sok_of _⟩
theorem RpD.int {n w : Nat} {i : Int} (h : i.natAbs.log2 < 100) (hl : (toString i : Str).length ≤ 40) (hw : i.natAbs.log2 + 1 ≤ w) : RpD n w (.int i) := ⟨by simp only [PyData.showable, decide_eq_true_eq]; omega, rfl, Nat.zero_le _, by simp only [PyData.leavesShort, decide_eq_true_eq, PyData.shown_int]; exact hl, by
  simp only [PyData.weight]
  split <;> omega, by rw [PyData.shown_int]; exact sok_of _⟩
theorem RpD.str {n w : Nat} {x : Str} (h : PyData.strOk x = true) (hw : x.length ≤ w) : RpD n w (.str x) := ⟨rfl, rfl, Nat.zero_le _, by
  simp only [PyData.leavesShort, List.all_eq_true, decide_eq_true_eq]
  exact fun c hc => Nat.lt_trans (sok_iff.mp h c hc) (by decide), hw, by rw [PyData.shown_str]; exact reprText_sok h⟩
theorem rpD_all {n w : Nat} : ∀ {ds : List PyData}, (∀ d ∈ ds, RpD n w d) → PyData.showableAll ds = true ∧ PyData.hasDictAll ds = false ∧ PyData.depthAll ds ≤ n ∧ PyData.leavesShortAll 40 ds = true ∧ PyData.weightAll ds ≤ ds.length * (w + 1) ∧ ∀ s ∈ PyData.shownAll ds, PyData.strOk s = true
  | [], _ => ⟨rfl, rfl, Nat.zero_le _, rfl, Nat.zero_le _, fun s hs => by rw [PyData.shownAll_nil] at hs; cases hs⟩
  | d :: ds, h => by
    obtain ⟨h1, h2, h3, h4, h5, h6⟩ := rpD_all (ds := ds) fun d hd => h d (List.mem_cons_of_mem _ hd)
    have k := h d (List.mem_cons_self ..)
    refine ⟨?_, ?_, ?_, ?_, ?_, ?_⟩
    · simp only [PyData.showableAll, k.sh, h1, Bool.and_true]
    · simp only [PyData.hasDictAll, k.nd, h2, Bool.or_false]
    · simp only [PyData.depthAll]; exact Nat.max_le.mpr ⟨k.dp, h3⟩
    · simp only [PyData.leavesShortAll, k.lv, h4, Bool.and_true]
    · simp only [PyData.weightAll, List.length_cons]
      have := k.wt
      rw [Nat.add_mul]
      omega
    · intro s hs
      rw [PyData.shownAll_cons] at hs
      rcases List.mem_cons.mp hs with rfl | hs
      · exact k.ok
      · exact h6 s hs
theorem RpD.tuple {n w w' : Nat} {ds : List PyData} (h : ∀ d ∈ ds, RpD n w d) (hw : ds.length * (w + 1) ≤ w') : RpD (n + 1) w' (.tuple ds) := by
  obtain ⟨h1, h2, h3, h4, h5, h6⟩ := rpD_all h
  refine ⟨by simp only [PyData.showable, h1], by simp only [PyData.hasDict, h2], by simp only [PyData.depth]; omega, by simp only [PyData.leavesShort, h4], by simp only [PyData.weight]; omega, ?_⟩
  rw [PyData.shown_tuple]
  refine sok_app (sok_app (sok_of _) (sok_join (sok_of _) h6)) ?_
  split <;> exact sok_of _
theorem RpD.list {n w w' : Nat} {ds : List PyData} (h : ∀ d ∈ ds, RpD n w d) (hw : ds.length * (w + 1) ≤ w') : RpD (n + 1) w' (.list ds) := by
  obtain ⟨h1, h2, h3, h4, h5, h6⟩ := rpD_all h
  refine ⟨by simp only [PyData.showable, h1], by simp only [PyData.hasDict, h2], by simp only [PyData.depth]; omega, by simp only [PyData.leavesShort, h4], by simp only [PyData.weight]; omega, ?_⟩
  rw [PyData.shown_list]
  exact sok_app (sok_app (sok_of _) (sok_join (sok_of _) h6)) (sok_of _)
def TR (n w : Nat) (t : T) : Prop := ∃ d, t.pd = some d ∧ RpD n w d
theorem TR.non {n w : Nat} : TR n w .non := ⟨_, rfl, .none⟩
theorem TR.bl {n w : Nat} {b : Bool} : TR n w (.bl b) := ⟨_, rfl, .bool⟩
theorem TR.int {n w : Nat} {i : Int} (h : i.natAbs.log2 < 100) (hl : (toString i : Str).length ≤ 40) (hw : i.natAbs.log2 + 1 ≤ w) : TR n w (.int i) := ⟨_, rfl, .int h hl hw⟩
theorem TR.str {n w : Nat} {x : Str} (h : PyData.strOk x = true) (hw : x.length ≤ w) : TR n w (.str x) := ⟨_, rfl, .str h hw⟩
theorem tr_all {n w : Nat} : ∀ {ts : List T}, (∀ t ∈ ts, TR n w t) → ∃ ds, pdL ts = some ds ∧ ds.length = ts.length ∧ ∀ d ∈ ds, RpD n w d
  | [], _ => ⟨[], by simp only [pdL], rfl, fun _ h => absurd h List.not_mem_nil⟩
  | t :: ts, h => by
    obtain ⟨ds, e, hl, hd⟩ := tr_all (ts := ts) fun t ht => h t (List.mem_cons_of_mem _ ht)
    obtain ⟨d, e1, h1⟩ := h t (List.mem_cons_self ..)
    refine ⟨d :: ds, by simp only [pdL, e1, e], by rw [List.length_cons, List.length_cons, hl], fun x hx => ?_⟩
    rcases List.mem_cons.mp hx with rfl | hx
    · exact h1
    · exact hd x hx
theorem TR.tup {n w w' : Nat} {ts : List T} (h : ∀ t ∈ ts, TR n w t) (hw : ts.length * (w + 1) ≤ w') : TR (n + 1) w' (.tup ts) := by
  obtain ⟨ds, e, hl, hd⟩ := tr_all h
  exact ⟨.tuple ds, by simp only [T.pd, e], .tuple hd (by rw [hl]; exact hw)⟩
theorem TR.lst {n w w' : Nat} {ts : List T} (h : ∀ t ∈ ts, TR n w t) (hw : ts.length * (w + 1) ≤ w') : TR (n + 1) w' (.lst ts) := by
  obtain ⟨ds, e, hl, hd⟩ := tr_all h
  exact ⟨.list ds, by simp only [T.pd, e], .list hd (by rw [hl]; exact hw)⟩
end NQ
/-! Own exceptions as values: made, their field read, asked for their classes. -/
namespace NL
open PySem PySem.Spec PyProof.Rows L2
/-- an exception of the own class C stands at a, its field f is v -/
def ExV (H : Hp) (a C : Addr) (f : Str) (v : V) : Prop := ∃ d, H a = some (exo a C (some d)) ∧ H d = some (exd d [(f, v)])
theorem ExV.ed {U : List Addr} {H H' : Hp} {a C : Addr} {f : Str} {v : V} (h : ExV H a C f v) (e : Ed U H H') (hU : ∀ x ∈ U, ∀ φ, H x ≠ some (.ext φ)) : ExV H' a C f v := by
  obtain ⟨d, h1, h2⟩ := h
  exact ⟨d, e.get (fun z => hU a z _ h1) h1, e.get (fun z => hU d z _ h2) h2⟩
section
variable {X : Cx} {k : Nat} {x f : Str} {C : Addr} {e : Expr} {es : List Expr} {ta : TA} {te : TE} {p pos : Pos}
def tMkV (C : Addr) (f : Str) (ta : TA) : TE := fun σ H Q => ta σ H fun vs H1 => ∃ v, vs = [v] ∧ ∀ a d H2, H1 a = none → H1 d = none → Ed [] H1 H2 → H2 a = some (exo a C (some d)) → H2 d = some (exd d [(f, v)]) → Q (.ref a) H2
theorem q_xv (T : XC X.prog X.w X.K X.mg X.base k x f C) (hr : Room (k + 1) X.A) (ha : PA X (e :: es) ta) (hg : Gl X x := by rfl) (hdb : (x == ("__debug__" : Str)) = false := by decide)
    (he : starEach (e :: es) X.env = (false, eval e X.env) :: starEach es X.env := by rfl) (hpl : (backTo pos (starEach es X.env)).any (·.1) = false := by rfl) :
    PE X (.Call (.Name x p) (e :: es) [] pos) (tMkV C f ta) := by
  obtain ⟨fI, fd, ps, iC, tI, hb, F1⟩ := T.fn
  refine ⟨fun pins s σ H Q I h => ?_⟩
  obtain ⟨nm, q, N, bs, bm, sn, sub, ab, col, dd, k0, k1, k2, k3, k5, nw, tl, hC, hbm, B, ini, FB, hp, hob⟩ := T.o.cls
  refine wpAny_Call_Name_kw (ld_glob I hg T.g ?_ hdb)
  refine PySem.W.callWith_K (h₀ := X.base) I.ok.mod.kin T.o.kC (thn (ha.run pos pins s σ H _ I h) fun us s1 z => ?_) he hpl
  obtain ⟨vs, H1, I1, r1, v, rfl, q1⟩ := z
  refine ⟨I1.kIn, ?_⟩
  show wpAny _ _ (call (.ref C) us) _ _ _
  obtain ⟨hh, gs, dr, tk, os⟩ := s1
  generalize hA : hh.objs.size + 1 = A1
  have le : hh.objs.size ≤ A1 := by omega
  have nA : H1 A1 = none := I1.hok.fresh le
  have kk : ∀ b o, hh.get? b = some o → ((hh.push (PySem.W.kdv_tup us)).push (PySem.HandSPX.excO C hh.objs.size)).get? b = some o := fun b o z => Heap.get?_push_of_some _ (Heap.get?_push_of_some _ z)
  have at1 : ((hh.push (PySem.W.kdv_tup us)).push (PySem.HandSPX.excO C hh.objs.size)).get? A1 = some (PySem.HandSPX.excO C hh.objs.size) := by subst hA; heap_get
  have I2 : Inv X pins σ (upd H1 A1 (exo A1 C none)) ⟨(hh.push (PySem.W.kdv_tup us)).push (PySem.HandSPX.excO C hh.objs.size), gs, dr, tk, os⟩ := I1.laid (t' := tk) kk le (exo_ok at1)
  have r2 : Vals [V.ref A1, v] (Value.ref A1 :: us) := .cons rfl r1
  have hq : sp_xi C f [.ref A1, v] (upd H1 A1 (exo A1 C none)) (fun w H2 => w = .non ∧ Q (.ref A1) H2) (fun _ _ _ => False) := by
    refine ⟨A1, v, rfl, upd_same, fun dx hdx hne => ⟨rfl, ?_⟩⟩
    have hd1 : H1 dx = none := by rw [upd_ne hne] at hdx; exact hdx
    refine q1 A1 dx _ nA hd1 ⟨fun b o _ hb => ?_, fun b hb => ?_⟩ upd_same ?_
    · have n1 : b ≠ A1 := ne_of_none hb nA
      have n2 : b ≠ dx := ne_of_none hb hd1
      rw [upd_ne n1, upd_ne n2, upd_ne n1]; exact hb
    · by_cases n1 : b = A1
      · rw [n1, upd_same]; exact fun z => nomatch z
      · by_cases n2 : b = dx
        · rw [n2, upd_ne hne, upd_same]; exact fun z => nomatch z
        · rw [upd_ne n1, upd_ne n2, upd_ne n1]; exact hb
    · rw [upd_ne hne, upd_same]
  have hl : (Value.ref A1 :: us).length = ps.length := r2.length.symm.trans (F1.len _ _ _ _ hq)
  have hus : us.length ≤ sizeLine := by
    have := Paired.length r1
    rw [← this, sizeLine_eq]
    exact Nat.le_of_ble_eq_true rfl
  have hb2 := hb _ (Value.ref A1 :: us) I2.kIn (by rw [List.append_nil]; exact hl)
  rw [List.append_nil] at hb2
  refine wpAny_call (PySem.HandSPX.call_own FB (fun n => refsB_has n hbm) (I1.kIn _ _ hC) (PySem.W.looks_findIn I1.kIn iC) (fun z => PySem.W.bind_fn I1.kIn z tI) hus ?_)
  rw [hA]
  refine codeAny_mono (F1.run _ X.stack _ _ ⟨Value.ref A1 :: us, []⟩ (Value.ref A1 :: us) _ _ (fun _ _ _ => False) (hr.make C us []) (I2.env0.make C us []) hb2 r2 hq) fun r s' z => ?_
  cases r with
  | error er => exact passL pins σ _ _ er s' I2 z
  | ok fl =>
    cases fl with
    | ret u =>
      obtain ⟨w, H3, I3, rw', ew, q3⟩ := I2.after z
      subst ew
      exact ⟨rw', ⟨V.ref A1, H3, I3, rfl, q3⟩⟩
    | _ => exact z.elim
theorem g_mkv {σ : L2.St} {H : Hp} {Q : VK} (h : ta σ H fun vs H1 => ∃ v, vs = [v] ∧ ∀ a d H2, H1 a = none → H1 d = none → Ed [] H1 H2 → H2 a = some (exo a C (some d)) → H2 d = some (exd d [(f, v)]) → Q (.ref a) H2) : tMkV C f ta σ H Q := h
/-- the field -/
def tXvF (K : PySem.W.Frag) (f : Str) (te : TE) : TE := fun σ H Q => te σ H fun x H1 => ∃ a C v, x = .ref a ∧ ExV H1 a C f v ∧ XfC K C ∧ PySem.W.findIn K (.ref C) f = some none ∧ Q v H1
theorem g_xvf {K : PySem.W.Frag} {σ : L2.St} {H : Hp} {Q : VK} (h : te σ H fun x H1 => ∃ a C v, x = .ref a ∧ ExV H1 a C f v ∧ XfC K C ∧ PySem.W.findIn K (.ref C) f = some none ∧ Q v H1) : tXvF K f te σ H Q := h
theorem exv_at {pins : List (Addr × Obj)} {σ : L2.St} {H : Hp} {s : Shared} {a D : Addr} {f : Str} {v : V} (I : Inv X pins σ H s) (h : ExV H a D f v) : ∃ (oe od : Obj) (mA : Str → Option Value) (d : Addr), PySem.W.InstAt s.heap a oe D (some od) ∧ s.heap.Ns1 d mA ∧ s.heap.get? d = some od ∧ (∀ g, RelO ([(f, v)].lookup g) (mA g)) := by
  obtain ⟨d, h1, h2⟩ := h
  obtain ⟨t1, g1⟩ := exo_at I.hok h1
  obtain ⟨mA, hn, hr⟩ := exd_at I.hok h2
  obtain ⟨od, ho, hl⟩ := lookIn_ns hn
  exact ⟨_, od, mA, d, ⟨g1, rfl, rfl, ho⟩, hn, ho, hr⟩
theorem q_xvf0 (he : PE X e te) (hb : attributeBase e f X.env (eval e X.env) = eval e X.env := by rfl) : PE X (.Attribute e f pos) (tXvF X.K f te) := by
  refine ⟨fun pins s σ H Q I h => ?_⟩
  refine attr_of hb (thn (he.run pins s σ H _ I h) fun u s1 hh => ?_)
  obtain ⟨x, H1, I1, rx, a, C, v, ex, hv, T, hno, q⟩ := hh
  subst ex
  obtain rfl : u = Value.ref a := rx
  obtain ⟨oe, od, mA, d, J, hns, ho, hr⟩ := exv_at I1 hv
  obtain ⟨od2, ho2, hl⟩ := lookIn_ns hns
  rw [ho] at ho2
  cases ho2
  obtain ⟨u, hu, ru⟩ := RelO.some_of (v := v) (o := mA f) (by have := hr f; simpa using this)
  exact HandSPX.exc_get I1.kIn J T.ga T.gg T.exC (PySem.W.findObj_own T.hdC hno rfl (by rw [hl, hu])) (handed_of ru) ⟨v, H1, I1.tok _, ru, q⟩
/-- isinstance(e, c) -/
def dIsV (K : PySem.W.Frag) : List V → Hp → VK → Prop := fun xs H Q => ∃ (a D : Addr) (f : Str) (v c : V) (cv : Value) (b : Bool), xs = [.ref a, c] ∧ ExV H a D f v ∧ ExcC K D ∧ ClsV c cv ∧ PySem.W.kitOne K (.ref D) cv = some b ∧ Q (.bl b) H
theorem cl_isV0 : CallR X (.builtin "isinstance") (dIsV X.K) := by
  intro pins s σ H xs us Q I r h
  obtain ⟨a, D, f, v, c, cv, b, rfl, hv, T, kc, e, q⟩ := h
  obtain ⟨u1, u2, rfl, r1, r2⟩ := vals2 r
  obtain rfl : u1 = Value.ref a := r1
  have e2 := kc.eq r2
  subst e2
  obtain ⟨oe, od, mA, d, J, _⟩ := exv_at I hv
  have hcl : (PySem.W.clsIn X.K D).isSome = true := by
    obtain ⟨cd, hc, _⟩ := PySem.W.any_some T.hd
    rw [hc]; rfl
  exact PySem.W.kia_one (PySem.W.kitx_exc hcl T.hg T.hk T.hs T.ha T.hn T.ht T.hm) I.kIn J e (fun z => nomatch z) fun tk => ⟨.bl b, H, I.tok tk, rfl, q⟩
theorem cl_isV (K : PySem.W.Frag) (h : X.K = K := by rfl) : CallR X (.builtin "isinstance") (dIsV K) := h ▸ cl_isV0
/-- isinstance(e, (c, ..)) -/
def dIsVT (K : PySem.W.Frag) : List V → Hp → VK → Prop := fun xs H Q => ∃ (a D tp : Addr) (f : Str) (v : V) (cs : List V) (ws : List Value) (b : Bool), xs = [.ref a, .ref tp] ∧ ExV H a D f v ∧ ExcC K D ∧ H tp = some (.tup cs) ∧ Paired ClsV cs ws ∧ PySem.W.kitAny K (.ref D) ws = some b ∧ Q (.bl b) H
theorem cl_isVT0 : CallR X (.builtin "isinstance") (dIsVT X.K) := by
  intro pins s σ H xs us Q I r h
  obtain ⟨a, D, tp, f, v, cs, ws, b, rfl, hv, T, hT, k, e, q⟩ := h
  obtain ⟨u1, u2, rfl, r1, r2⟩ := vals2 r
  obtain rfl : u1 = Value.ref a := r1
  obtain rfl : u2 = Value.ref tp := r2
  obtain ⟨oe, od, mA, d, J, _⟩ := exv_at I hv
  have hcl : (PySem.W.clsIn X.K D).isSome = true := by
    obtain ⟨cd, hc, _⟩ := PySem.W.any_some T.hd
    rw [hc]; rfl
  obtain ⟨_, its, rv, o, h1, h2, n, h3⟩ := (show ObjOk X.prog X.w H s.heap tp (.tup cs) from I.hok tp _ hT)
  have e3 := ClsV.all k rv
  subst e3
  obtain ⟨oc, od', dt, sl⟩ := o
  dsimp only at h2 h3
  subst h2 h3
  exact PySem.W.kia_tup (PySem.W.kitx_exc hcl T.hg T.hk T.hs T.ha T.hn T.ht T.hm) I.kIn J h1 e (fun z => nomatch z) fun tk => ⟨.bl b, H, I.tok tk, rfl, q⟩
theorem cl_isVT (K : PySem.W.Frag) (h : X.K = K := by rfl) : CallR X (.builtin "isinstance") (dIsVT K) := h ▸ cl_isVT0
theorem q_xvf (K : PySem.W.Frag) (he : PE X e te) (h : X.K = K := by rfl) (hb : attributeBase e f X.env (eval e X.env) = eval e X.env := by rfl) : PE X (.Attribute e f pos) (tXvF K f te) := h ▸ q_xvf0 he hb
theorem bt_KeyError : bootBuiltins "KeyError" = some (.type "KeyError") := by decide +kernel
theorem bt_IndexError : bootBuiltins "IndexError" = some (.type "IndexError") := by decide +kernel
/-- repr of any data -/
def dReprA (K : PySem.W.Frag) : List V → Hp → VK → Prop := fun xs H Q => ∃ x d, xs = [x] ∧ Dp K H x d ∧ d.showable = true ∧ d.hasDict = false ∧ d.depth ≤ 60 ∧ d.shown.length ≤ sizeLine ∧ Q (.str d.shown) H
theorem cl_reprA (K : PySem.W.Frag) (hG : X.A.guards = some []) (hu : X.A.units + 64 < cLine) (h : X.K = K := by rfl) : CallR X (.builtin "repr") (dReprA K) := by
  subst h
  intro pins s σ H xs us Q I r h
  obtain ⟨x, d, rfl, hd, hs, hn, hdp, hz, q⟩ := h
  obtain ⟨u, rfl, rx⟩ := vals1 r
  have shape : (∃ a, x = .ref a) ∨ (x = .non ∧ d = .none) ∨ (∃ b, x = .bl b ∧ d = .bool b) ∨ (∃ i, x = .int i ∧ d = .int i) ∨ ∃ y, x = .str y ∧ d = .str y := by
    cases hd with
    | non => exact .inr (.inl ⟨rfl, rfl⟩)
    | bl b => exact .inr (.inr (.inl ⟨b, rfl, rfl⟩))
    | int i => exact .inr (.inr (.inr (.inl ⟨i, rfl, rfl⟩)))
    | str y => exact .inr (.inr (.inr (.inr ⟨y, rfl, rfl⟩)))
    | _ => exact .inl ⟨_, rfl⟩
  rcases shape with ⟨a, rfl⟩ | ⟨rfl, rfl⟩ | ⟨b, rfl, rfl⟩ | ⟨i, rfl, rfl⟩ | ⟨y, rfl, rfl⟩
  · obtain rfl : u = Value.ref a := rx
    obtain ⟨as, rr⟩ := Dp.reads I d _ _ hd rfl
    exact repr_of_reads' rr hs (fun z => by rw [hn] at z; cases z) hG (by omega) (fun _ _ e => e) (fun h' u tk hk => ⟨.str d.shown, H, I.kept hk, ⟨_, rfl⟩, q⟩) hz
  · obtain rfl : u = Value.none := rx
    rw [PyData.shown_none] at q
    exact PySem.P.repr_of_none ⟨.str _, H, I.tok _, ⟨_, rfl⟩, q⟩
  · obtain rfl : u = Value.bool b := rx
    rw [PyData.shown_bool] at q
    exact PySem.P.repr_of_bool ⟨.str _, H, I.tok _, ⟨_, rfl⟩, q⟩
  · obtain ⟨t, rfl⟩ := rx
    rw [PyData.shown_int] at q
    refine PySem.P.repr_of_int ?_ ⟨.str _, H, I.tok _, ⟨_, rfl⟩, q⟩
    simp only [PyData.showable, decide_eq_true_eq] at hs
    omega
  · obtain ⟨t, rfl⟩ := rx
    rw [PyData.shown_str] at q hz
    exact PySem.P.repr_of_str ⟨.str _, H, I.tok _, ⟨_, rfl⟩, q⟩ hz
theorem g_repr {K : PySem.W.Frag} {W : List Addr} {H : Hp} {x : V} {d : PyData} {Q : VK} (h : Df W H x d) (h1 : d.showable = true) (h2 : d.hasDict = false) (h3 : d.depth ≤ 60) (h4 : d.shown.length ≤ sizeLine) (h5 : noD d = true) (k : Q (.str d.shown) H) : dReprA K [x] H Q := ⟨x, d, rfl, h.dp h5, h1, h2, h3, h4, k⟩
end
/-! ### several of them -/
/-- as: one exception of each class, all with the value v -/
def Exs (K : PySem.W.Frag) (cl fl : Nat → Str) (H : Hp) (as : List Addr) (v : V) : Prop := ∀ i a, as[i]? = some a → ExV H a (He.ga K (cl i)) (fl i) v
section
variable {K : PySem.W.Frag} {cl fl : Nat → Str} {H H' : Hp} {as : List Addr} {v : V}
theorem Exs.nil : Exs K cl fl H [] v := fun i a h => by simp at h
theorem Exs.ed (h : Exs K cl fl H as v) (e : Ed [] H H') : Exs K cl fl H' as v := fun i a hi => (h i a hi).ed e fun _ z => absurd z List.not_mem_nil
theorem Exs.snoc {a : Addr} {C : Addr} {f : Str} {n : Nat} (h : Exs K cl fl H as v) (x : ExV H a C f v) (hn : as.length = n := by rfl) (hc : C = He.ga K (cl n) := by rfl) (hf : f = fl n := by rfl) : Exs K cl fl H (as ++ [a]) v := fun i b hi => by
  subst hc hf hn
  rcases Nat.lt_trichotomy i as.length with q | q | q
  · rw [List.getElem?_append_left q] at hi; exact h i b hi
  · subst q
    rw [List.getElem?_append_right (Nat.le_refl _), Nat.sub_self] at hi
    cases hi
    exact x
  · rw [List.getElem?_eq_none (by simp; omega)] at hi
    cases hi
end
end NL
namespace NL
open PySem L2
local macro_rules | `(tactic| walk_at "wipe") => `(tactic| (simp only [wipe_cons, wipe_nil, List.map_cons, List.map_nil, List.set_cons_succ, List.set_cons_zero]; rfl))
local macro_rules | `(tactic| walk_at "mem") => `(tactic| first | assumption | exact List.mem_cons_self .. | (apply List.mem_cons_of_mem; walk_at "mem"))
local macro_rules | `(tactic| walk_at "sub") => `(tactic| first | exact no0 | exact subr | (refine sub1 ?_; walk_at "mem") | (refine subc ?_; walk_at "sub"))
local macro_rules | `(tactic| walk_at "df") => `(tactic| first
  | assumption | exact Df.int _ | exact Df.str _ | exact Df.non | exact Df.bl _
  | exact Bld.done (by assumption)
  | exact Dk.df (by assumption)
  | ((refine' Df.ed (by assumption) ?s ?h); (case s => walk_at "sub"); (case h => walk_at "df"))
  | ((refine' Df.via (by assumption) (by assumption) ?e ?h); (case e => walk_at "ed"); (case h => walk_at "df"))
  | ((refine' Df.more (by assumption) ?h); (case h => walk_at "df"))
  | ((refine' Df.weak ?s ?h); (case h => assumption); (case s => walk_at "sub")))
local macro_rules | `(tactic| walk_at "dfs") => `(tactic| first
  | assumption | exact DfAll.nil | ((refine' DfAll.cons ?a ?b); (case a => walk_at "df"); (case b => walk_at "dfs"))
  | exact DfAll.strs _ | exact DfAll.ints _)
local macro_rules | `(tactic| walk_at "dk") => `(tactic| first
  | assumption
  | ((refine' Dk.ed ?h (by assumption) ?s); (case s => walk_at "sub"); (case h => walk_at "dk"))
  | ((refine' Dk.via (by assumption) (by assumption) ?e ?h); (case e => walk_at "ed"); (case h => walk_at "dk"))
  | ((refine' Dk.more (by assumption) ?h); (case h => walk_at "dk")))
local macro_rules | `(tactic| walk_at "alive") => `(tactic| first | assumption | exact Bag.alive (by assumption) | exact Bld.alive (by assumption) | exact Df.alive (by assumption) | exact Dk.alive (by assumption))
local macro_rules | `(tactic| walk_at "wl") => `(tactic| first
  | assumption | exact Wl.nil
  | ((refine Wl.cons' ?a ?r); (case a => walk_at "alive"); (case r => walk_at "wl"))
  | ((refine Wl.ed ?r (by assumption)); (case r => walk_at "wl"))
  | exact Wl.tail (by assumption))
local macro_rules | `(tactic| walk_at "al") => `(tactic| first | exact Al.refl | ((refine' Al.of (by assumption) ?h); (case h => walk_at "al")))
local macro_rules | `(tactic| walk_at "fr") => `(tactic| first | assumption | ((refine' Al.free ?e (by assumption)); (case e => walk_at "al")))
local macro_rules | `(tactic| walk_at "edv") => `(tactic| first | exact no0 | ((refine edvl ?s); (case s => walk_at "sub")) | ((refine edv1 (Or.inr ?f)); (case f => walk_at "fr")))
local macro_rules | `(tactic| walk_at "ed") => `(tactic| first
  | assumption | exact Ed.refl
  | ((refine Ed.tr ?x (by assumption) ?v); (case x => walk_at "ed"); (case v => walk_at "edv")))
local macro_rules | `(tactic| walk_at "nb") => `(tactic| first | exact List.not_mem_nil | assumption | exact nb_bld (by assumption) (by walk_at "mem"))
local macro_rules | `(tactic| walk_at "bag") => `(tactic| first
  | assumption
  | ((refine' Bag.ed ?h (by assumption) ?n); (case n => walk_at "nb"); (case h => walk_at "bag"))
  | ((refine' Bag.via (by assumption) (by assumption) ?e ?h); (case e => walk_at "ed"); (case h => walk_at "bag")))
local macro_rules | `(tactic| walk_at "bld") => `(tactic| first
  | assumption
  | ((refine' Bld.ed ?h (by assumption) ?s); (case s => walk_at "sub"); (case h => walk_at "bld"))
  | ((refine' Bld.via (by assumption) (by assumption) ?e ?h); (case e => walk_at "ed"); (case h => walk_at "bld")))
local macro_rules | `(tactic| walk_at "num") => `(tactic| first | omega | assumption)
local macro_rules | `(tactic| walk_at "ne") => `(tactic| first
  | assumption
  | (apply Ne.symm; assumption)
  | (refine' ne_of_none ?n1 (by assumption); (case n1 => walk_at "hp"))
  | (refine' Ne.symm (ne_of_none ?n1 (by assumption)); (case n1 => walk_at "hp")))
local macro_rules | `(tactic| walk_at "hp") => `(tactic| first
  | assumption
  | with_reducible exact upd_same
  | ((with_reducible refine Eq.trans (upd_ne ?n1) ?n2); (case n1 => walk_at "ne"); (case n2 => walk_at "hp"))
  | ((with_reducible refine hp_same (by assumption) ?n2); (case n2 => walk_at "hp"))
  | ((with_reducible refine hp_sx (by assumption) ?n1 ?n2); (case n1 => simp only [List.mem_cons, List.not_mem_nil, or_false]; walk_at "ne"); (case n2 => walk_at "hp")))
local macro_rules | `(tactic| walk_at "sq") => `(tactic| first
  | assumption
  | ((refine' Or.inl ?n1); (case n1 => walk_at "sql"))
  | ((refine' Or.inr ?n1); (case n1 => walk_at "sqt")))
local macro_rules | `(tactic| walk_at "sql") => `(tactic| first
  | assumption
  | ((refine' SqL.of ?n1); (case n1 => walk_at "hp"))
  | (refine sqL_same (by assumption) ?n1; (case n1 => walk_at "same")))
local macro_rules | `(tactic| walk_at "same") => `(tactic| first
  | assumption
  | exact Same.refl _
  | (refine L2.Same.new ?n1 (by assumption); (case n1 => walk_at "same"))
  | (refine L2.Same.mut ?n1 ?n2; (case n2 => first | assumption | exact Same.free (by assumption) (by assumption)); (case n1 => walk_at "same")))
local macro_rules | `(tactic| walk_at "sqt") => `(tactic| first
  | assumption
  | ((refine' SqT.of ?n1); (case n1 => walk_at "hp")))
local macro_rules | `(tactic| walk_at "size") => `(tactic| (rw [sizeLine_eq] <;> first | omega | (simp; omega)))
local macro_rules | `(tactic| walk_at "flat") => `(tactic| first | assumption | exact flat_strs _ | exact flat_ints _ | rfl | simp [flatV])
local macro_rules | `(tactic| walk_at "go1") => `(tactic| first
  | with_reducible refine g_seq ?_
  | with_reducible refine g_asg ?_
  | ((with_reducible refine' g_nameE ?z ?_); (case z => (simp only [List.set_cons_succ, List.set_cons_zero]; rfl)))
  | with_reducible refine g_name ?_
  | with_reducible refine g_op ?_
  | ((with_reducible refine' g_var ?z ?_); (case z => exact rfl))
  | with_reducible refine g_c ?_
  | with_reducible refine g_cb ?_
  | with_reducible refine g_cons ?_
  | with_reducible refine g_nil ?_
  | with_reducible refine g_ifS ?_
  | with_reducible refine g_test ?_
  | with_reducible refine g_tb ?_
  | with_reducible refine g_bl ?_
  | with_reducible refine g_not ?_
  | with_reducible refine g_and ?_
  | with_reducible refine g_or ?_
  | with_reducible refine g_ret ?_
  | with_reducible refine g_retN ?_
  | with_reducible refine g_drop ?_
  | with_reducible refine g_ifE ?_
  | with_reducible refine g_callS ?_
  | with_reducible refine g_sub ?_
  | with_reducible refine g_un ?_
  | with_reducible refine g_next ?_
  | with_reducible refine g_cmp_i ?_
  | with_reducible refine g_add_i ?_
  | with_reducible refine g_sub_i ?_
  | with_reducible refine g_int_i ?_
  | with_reducible refine g_eq_i ?_
  | with_reducible refine g_eq_s ?_
  | with_reducible refine g_eq_b ?_
  | with_reducible refine g_ne_i ?_
  | with_reducible refine g_ne_s ?_
  | with_reducible refine g_ne_b ?_
  | with_reducible refine g_str_s ?_
  | with_reducible refine g_abs ?_
  | with_reducible refine g_max ?_
  | with_reducible refine g_min ?_
  | with_reducible refine g_isN ?_
  | with_reducible refine g_isNotN ?_
  | ((with_reducible refine g_mod_i ?z ?_); (case z => walk_at "num"))
  | ((with_reducible refine g_div_i ?z ?_); (case z => exact ⟨by walk_at "num", by first | assumption | decide⟩))
  | ((with_reducible refine g_mul_i ?z ?_); (case z => first | exact Or.inl (Or.inr ⟨by omega, by omega⟩) | exact Or.inl (Or.inl ⟨by omega, by omega⟩) | assumption))
  | ((with_reducible refine' g_ix_l ?z1 ?z2 ?_); (case z1 => walk_at "sq"); (case z2 => first | rfl | assumption))
  | ((with_reducible refine' g_setL ?z1 ?z2 ?_); (case z1 => walk_at "hp"); (case z2 => first | rfl | assumption))
  | ((with_reducible refine' g_len_l ?z1 ?_); (case z1 => walk_at "sq"))
  | ((with_reducible refine' g_augE ?z ?_); (case z => exact rfl))
  | with_reducible refine g_for ?_
  | with_reducible refine g_lc ?_
  | with_reducible refine g_iL ?_
  | with_reducible refine g_iT ?_
  | with_reducible refine g_iS ?_
  | with_reducible refine g_iS1 ?_
  | with_reducible refine g_iE ?_
  | with_reducible refine g_iR ?_
  | ((with_reducible refine' g_iL1 ?z1 ?_); (case z1 => walk_at "sql"))
  | ((with_reducible refine' g_iT1 ?z1 ?_); (case z1 => walk_at "sqt"))
  | ((with_reducible refine' g_iE1 ?z1 ?_); (case z1 => walk_at "sql"))
  | ((with_reducible refine g_iR1 ?z1 ?z2 ?_); (case z1 => walk_at "num"); (case z2 => walk_at "num"))
  | with_reducible refine g_yes ?_
  | with_reducible refine g_sl ?_
  | with_reducible refine g_noP ?_
  | with_reducible refine g_part ?_
  | ((with_reducible refine g_pow_i ?z ?_); (case z => exact ⟨by decide, by decide, by decide⟩))
  | ((with_reducible refine g_len_s ?z ?_); (case z => first | assumption | walk_at "size"))
  | with_reducible refine iteT ?_
  | with_reducible refine iteF ?_
  | with_reducible refine iteNT ?_
  | with_reducible refine iteNF ?_
  | with_reducible refine g_int1 ?_
  | ((with_reducible refine' g_slL ?z1 ?_); (case z1 => walk_at "sql"))
  | ((with_reducible refine' g_listL ?z1 ?_); (case z1 => walk_at "sq"))
  | ((with_reducible refine' g_inLs ?z1 ?_); (case z1 => walk_at "sq"))
  | ((with_reducible refine' g_ninLs ?z1 ?_); (case z1 => walk_at "sq"))
  | with_reducible refine g_ip ?_
  | with_reducible refine g_rU ?_
  | ((with_reducible refine' g_inL ?z1 ?z2 ?z3 ?_); (case z1 => walk_at "sq"); (case z2 => rfl); (case z3 => walk_at "flat"))
  | ((with_reducible refine' g_ninL ?z1 ?z2 ?z3 ?_); (case z1 => walk_at "sq"); (case z2 => rfl); (case z3 => walk_at "flat"))
  | with_reducible refine g_inS ?_
  | with_reducible refine g_ninS ?_
  | with_reducible refine g_bm ?_
  | with_reducible refine g_bm0 ?_
  | ((with_reducible refine' g_tyL ?z1 ?_); (case z1 => walk_at "sql"))
  | with_reducible refine g_tyS ?_
  | ((with_reducible refine' g_tyB ?z1 ?_); (case z1 => assumption))
  | ((with_reducible refine' g_tyD ?z1 ?_); (case z1 => assumption))
  | ((with_reducible refine' g_app ?z1 ?z2 ?_); (case z1 => walk_at "hp"); (case z2 => walk_at "size"))
  | ((with_reducible refine' g_join ?z1 ?z2 ?_); (case z1 => walk_at "sq"); (case z2 => walk_at "size"))
  | ((with_reducible refine g_words ?z ?_); (case z => walk_at "size"))
  | ((with_reducible refine g_split ?z1 ?z ?_); (case z1 => rfl); (case z => walk_at "size"))
  | with_reducible refine g_lst ?_
  | with_reducible refine g_tup ?_
  | with_reducible refine tru_b ?_
  | with_reducible refine tru_n ?_
  | with_reducible refine tru_i ?_
  | with_reducible refine g_andT ?_
  | with_reducible refine g_orT ?_
  | with_reducible refine g_notT ?_
  | with_reducible refine g_raise ?_
  | with_reducible refine g_raised ?_
  | with_reducible refine g_make ?_
  | with_reducible refine g_meth ?_
  | with_reducible refine g_fld ?_
  | with_reducible refine g_sfld ?_
  | ((with_reducible refine' g_gf ?z1 ?z2 ?z3 ?z4 ?_); (case z1 => walk_at "hp"); (case z2 => assumption); (case z3 => assumption); (case z4 => rfl))
  | ((with_reducible refine' g_sf ?z1 ?z2 ?z3 ?z4 ?_); (case z1 => walk_at "hp"); (case z2 => assumption); (case z3 => assumption); (case z4 => exact Nat.lt_of_lt_of_le (Nat.lt_succ_self _) (Nat.le_of_ble_eq_true rfl)))
  | ((with_reducible refine' g_gtup ?z1 ?z2 ?_); (case z1 => walk_at "sqt"); (case z2 => rfl))
  | with_reducible refine g_gcons ?_
  | with_reducible refine g_gnil ?_
  | with_reducible refine g_callO ?_
  | ((with_reducible refine' g_co ?z1 ?_); (case z1 => walk_at "hp"))
  | ((with_reducible refine' g_ci ?z1 ?_); (case z1 => walk_at "hp"))
  | with_reducible refine g_dget ?_
  | ((with_reducible refine' g_dgs ?z1 ?z2 ?_); (case z1 => walk_at "hp"); (case z2 => first | assumption | rfl))
  | with_reducible refine g_dput ?_
  | ((with_reducible refine' g_dps ?z1 ?z2 ?_); (case z1 => walk_at "hp"); (case z2 => walk_at "size"))
  | with_reducible refine g_match ?_
  | with_reducible refine g_matched ?_
  | with_reducible refine g_mcs ?_
  | with_reducible refine g_mcg ?_
  | with_reducible refine g_many ?_
  | with_reducible refine g_mnil ?_
  | with_reducible refine g_afld ?_
  | with_reducible refine g_rAdd ?_
  | with_reducible refine g_rSub ?_
  | ((with_reducible refine' g_gfa ?z1 ?z2 ?z3 ?z4 ?_); (case z1 => walk_at "hp"); (case z2 => assumption); (case z3 => assumption); (case z4 => rfl))
  | ((with_reducible refine' g_af ?z1 ?z2 ?_); (case z1 => walk_at "hp"); (case z2 => exact Nat.lt_of_lt_of_le (Nat.lt_succ_self _) (Nat.le_of_ble_eq_true rfl)))
  | ((with_reducible refine' g_mt ?z1 ?z2 ?_); (case z1 => walk_at "hp"); (case z2 => rfl))
  | with_reducible refine g_ite_refl ?_
  | with_reducible refine g_iZ ?_
  | with_reducible refine g_din ?_
  | with_reducible refine g_par ?_
  | with_reducible refine g_par2 ?_
  | ((with_reducible refine' g_iTd ?z1 ?_); (case z1 => assumption))
  | with_reducible refine g_dget2 ?_
  | ((with_reducible refine' g_isd ?z1 ?_); (case z1 => assumption))
  | with_reducible refine g_dnin ?_
  | with_reducible refine g_disp ?_
  | with_reducible refine g_pr ?_
  | with_reducible refine g_pr0 ?_
  | ((with_reducible refine' g_iLd ?z1 ?_); (case z1 => assumption))
  | ((with_reducible refine' g_iEd ?z1 ?_); (case z1 => assumption))
  | ((with_reducible refine' g_iZd ?z1 ?z2 ?_); (case z1 => assumption); (case z2 => assumption))
  | ((with_reducible refine' g_lend ?z1 ?_); (case z1 => assumption))
  | ((with_reducible refine' g_inds ?z1 ?_); (case z1 => assumption))
  | ((with_reducible refine' g_ninds ?z1 ?_); (case z1 => assumption))
  | ((with_reducible refine' g_dgd ?z1 ?z2 ?_); (case z1 => assumption); (case z2 => first | assumption | rfl))
  | with_reducible refine g_par3 ?_
  | with_reducible refine g_par33 ?_
  | with_reducible refine g_cm ?_
  | with_reducible refine g_star ?_
  | ((with_reducible refine' g_makeL ?z1 ?_); (case z1 => exact rfl))
  | with_reducible refine g_brk ?_
  | with_reducible refine g_cont ?_)
local macro_rules | `(tactic| walk_at "go") => `(tactic| repeat walk_at "go1")
-- EV
local macro_rules | `(tactic| walk_at "fin") => `(tactic| first | exact NQ.fin0 | exact NQ.fin_o (by walk_at "fin") rfl | exact NQ.fin_f (by walk_at "fin") rfl)
local macro_rules | `(tactic| walk_at "evo") => `(tactic| first
  | ((with_reducible refine' NQ.wo_ix_l ?z1 ?_); (case z1 => first | exact NQ.atI0 | exact NQ.atI1 | exact NQ.atI2 | exact NQ.atI3 | exact NQ.atI4 | assumption))
  | ((with_reducible refine' NQ.wo_ix_t ?z1 ?_); (case z1 => first | exact NQ.atI0 | exact NQ.atI1 | exact NQ.atI2 | exact NQ.atI3 | exact NQ.atI4 | assumption))
  | ((with_reducible refine' NQ.wo_fld ?z1 ?_); (case z1 => exact rfl))
  | ((with_reducible refine' NQ.wo_eq ?z1 ?_); (case z1 => first | assumption | exact NQ.eqB_ii | exact NQ.eqB_ss | exact NQ.eqB_bb | exact NQ.eqB_pl 9 (by first | rfl | assumption) (by first | rfl | assumption)))
  | ((with_reducible refine' NQ.wo_ne ?z1 ?_); (case z1 => first | assumption | exact NQ.eqB_ii | exact NQ.eqB_ss | exact NQ.eqB_bb | exact NQ.eqB_pl 9 (by first | rfl | assumption) (by first | rfl | assumption)))
  | with_reducible refine NQ.wo_addi ?_
  | with_reducible refine NQ.wo_len_l ?_
  | ((with_reducible refine' NQ.wo_ix_dt ?z1 ?z2 ?_); (case z1 => first | exact rfl | assumption); (case z2 => assumption))
  | with_reducible refine NQ.wo_addAi ?_
  | with_reducible refine NQ.wo_addI ?_
  | with_reducible refine NQ.wo_subI ?_
  | with_reducible refine NQ.wo_subi ?_
  | with_reducible refine NQ.wo_cmp ?_
  | with_reducible refine NQ.wo_neg ?_
  | with_reducible refine NQ.wo_isN ?_
  | with_reducible refine NQ.wo_notN ?_
  | with_reducible refine NQ.wo_len_t ?_
  | with_reducible refine NQ.wo_len_c ?_
  | with_reducible refine NQ.wo_int_i ?_
  | with_reducible refine NQ.wo_int_b ?_
  | with_reducible refine NQ.wo_str_s ?_
  | with_reducible refine NQ.wo_abs ?_
  | with_reducible refine NQ.wo_max ?_
  | with_reducible refine NQ.wo_min ?_
  | with_reducible refine NQ.wo_list_l ?_
  | with_reducible refine NQ.wo_list_t ?_
  | with_reducible refine NQ.wo_list_c ?_
  | with_reducible refine NQ.wo_tuple ?_
  | with_reducible refine NQ.wo_slL1 ?_
  | with_reducible refine NQ.wo_slL2 ?_
  | with_reducible refine NQ.wo_slL3 ?_
  | ((with_reducible refine' NQ.wo_adds ?z1 ?_); (case z1 => first | assumption | omega | (simp only [List.length_cons, List.length_nil, List.length_append, List.length_map, NQ.rg_len, List.length_range, Str.length_append] <;> omega) | decide +kernel))
  | ((with_reducible refine' NQ.wo_addAs ?z1 ?_); (case z1 => first | assumption | omega | (simp only [List.length_cons, List.length_nil, List.length_append, List.length_map, NQ.rg_len, List.length_range, Str.length_append] <;> omega) | decide +kernel))
  | ((with_reducible refine' NQ.wo_addL ?z1 ?_); (case z1 => first | assumption | omega | (simp only [List.length_cons, List.length_nil, List.length_append, List.length_map, NQ.rg_len, List.length_range, Str.length_append] <;> omega) | decide +kernel))
  | ((with_reducible refine' NQ.wo_addAl ?z1 ?_); (case z1 => first | assumption | omega | (simp only [List.length_cons, List.length_nil, List.length_append, List.length_map, NQ.rg_len, List.length_range, Str.length_append] <;> omega) | decide +kernel))
  | ((with_reducible refine' NQ.wo_addU ?z1 ?_); (case z1 => first | assumption | omega | (simp only [List.length_cons, List.length_nil, List.length_append, List.length_map, NQ.rg_len, List.length_range, Str.length_append] <;> omega) | decide +kernel))
  | ((with_reducible refine' NQ.wo_len_s ?z1 ?_); (case z1 => first | assumption | omega | (simp only [List.length_cons, List.length_nil, List.length_append, List.length_map, NQ.rg_len, List.length_range, Str.length_append] <;> omega) | decide +kernel))
  | ((with_reducible refine' NQ.wo_list_s ?z1 ?_); (case z1 => first | assumption | omega | (simp only [List.length_cons, List.length_nil, List.length_append, List.length_map, NQ.rg_len, List.length_range, Str.length_append] <;> omega) | decide +kernel))
  | ((with_reducible refine' NQ.wo_lst ?z1 ?_); (case z1 => first | assumption | omega | (simp only [List.length_cons, List.length_nil, List.length_append, List.length_map, NQ.rg_len, List.length_range, Str.length_append] <;> omega) | decide +kernel))
  | ((with_reducible refine' NQ.wo_tup ?z1 ?_); (case z1 => first | assumption | omega | (simp only [List.length_cons, List.length_nil, List.length_append, List.length_map, NQ.rg_len, List.length_range, Str.length_append] <;> omega) | decide +kernel))
  | ((with_reducible refine' NQ.wo_slS1 ?z1 ?_); (case z1 => first | assumption | omega | (simp only [List.length_cons, List.length_nil, List.length_append, List.length_map, NQ.rg_len, List.length_range, Str.length_append] <;> omega) | decide +kernel))
  | ((with_reducible refine' NQ.wo_slS2 ?z1 ?_); (case z1 => first | assumption | omega | (simp only [List.length_cons, List.length_nil, List.length_append, List.length_map, NQ.rg_len, List.length_range, Str.length_append] <;> omega) | decide +kernel))
  | ((with_reducible refine' NQ.wo_slS3 ?z1 ?_); (case z1 => first | assumption | omega | (simp only [List.length_cons, List.length_nil, List.length_append, List.length_map, NQ.rg_len, List.length_range, Str.length_append] <;> omega) | decide +kernel))
  | ((with_reducible refine' NQ.wo_words ?z1 ?_); (case z1 => first | assumption | omega | (simp only [List.length_cons, List.length_nil, List.length_append, List.length_map, NQ.rg_len, List.length_range, Str.length_append] <;> omega) | decide +kernel))
  | ((with_reducible refine' NQ.wo_strip ?z1 ?_); (case z1 => first | assumption | omega | (simp only [List.length_cons, List.length_nil, List.length_append, List.length_map, NQ.rg_len, List.length_range, Str.length_append] <;> omega) | decide +kernel))
  | ((with_reducible refine' NQ.wo_muliR ?z1 ?z2 ?_); (case z1 => first | omega | assumption | decide); (case z2 => first | omega | assumption | decide))
  | ((with_reducible refine' NQ.wo_muliL ?z1 ?z2 ?_); (case z1 => first | omega | assumption | decide); (case z2 => first | omega | assumption | decide))
  | ((with_reducible refine' NQ.wo_mulAR ?z1 ?z2 ?_); (case z1 => first | omega | assumption | decide); (case z2 => first | omega | assumption | decide))
  | ((with_reducible refine' NQ.wo_mulAL ?z1 ?z2 ?_); (case z1 => first | omega | assumption | decide); (case z2 => first | omega | assumption | decide))
  | ((with_reducible refine' NQ.wo_muls ?z1 ?_); (case z1 => (refine ⟨?_, ?_, ?_⟩ <;> first | omega | decide | (exact Nat.le_of_ble_eq_true rfl) | (simp only [List.length_cons, List.length_nil, List.length_append, List.length_map, NQ.rg_len, List.length_range, Str.length_append] <;> omega) | assumption)))
  | ((with_reducible refine' NQ.wo_mulL ?z1 ?_); (case z1 => (refine ⟨?_, ?_, ?_⟩ <;> first | omega | decide | (exact Nat.le_of_ble_eq_true rfl) | (simp only [List.length_cons, List.length_nil, List.length_append, List.length_map, NQ.rg_len, List.length_range, Str.length_append] <;> omega) | assumption)))
  | ((with_reducible refine' NQ.wo_mulAl ?z1 ?_); (case z1 => (refine ⟨?_, ?_, ?_⟩ <;> first | omega | decide | (exact Nat.le_of_ble_eq_true rfl) | (simp only [List.length_cons, List.length_nil, List.length_append, List.length_map, NQ.rg_len, List.length_range, Str.length_append] <;> omega) | assumption)))
  | ((with_reducible refine' NQ.wo_modi ?z1 ?_); (case z1 => first | omega | assumption | decide))
  | ((with_reducible refine' NQ.wo_divi ?z1 ?z2 ?_); (case z1 => first | omega | assumption | decide); (case z2 => first | omega | assumption | decide))
  | ((with_reducible refine' NQ.wo_powi ?z1 ?z2 ?z3 ?z4 ?_); (case z1 => first | omega | assumption | decide); (case z2 => first | omega | assumption | decide); (case z3 => first | omega | assumption | decide); (case z4 => first | omega | assumption | decide))
  | ((with_reducible refine' NQ.wo_in ?z1 ?_); (case z1 => first | assumption | exact NQ.memB_ch (by first | rfl | assumption) | exact NQ.memB_c (by first | rfl | assumption) | exact NQ.memB_l (by first | rfl | assumption) (by first | rfl | assumption) | exact NQ.memB_t (by first | rfl | assumption) (by first | rfl | assumption)))
  | ((with_reducible refine' NQ.wo_nin ?z1 ?_); (case z1 => first | assumption | exact NQ.memB_ch (by first | rfl | assumption) | exact NQ.memB_c (by first | rfl | assumption) | exact NQ.memB_l (by first | rfl | assumption) (by first | rfl | assumption) | exact NQ.memB_t (by first | rfl | assumption) (by first | rfl | assumption)))
  | ((with_reducible refine' NQ.wo_disp ?z1 ?z2 ?z3 ?_); (case z1 => decide +kernel); (case z2 => exact rfl); (case z3 => decide))
  | ((with_reducible refine' NQ.wo_split ?z1 ?z2 ?_); (case z1 => first | exact rfl | assumption | decide +kernel); (case z2 => first | assumption | omega | (simp only [List.length_cons, List.length_nil, List.length_append, List.length_map, NQ.rg_len, List.length_range, Str.length_append] <;> omega) | decide +kernel))
  | ((with_reducible refine' NQ.wo_join ?z1 ?z2 ?_); (case z1 => first | assumption | exact rfl); (case z2 => first | assumption))
  | ((with_reducible refine' NQ.wo_ixR_l ?z1 ?z2 ?_); (case z1 => first | exact NQ.atI0 | exact NQ.atI1 | exact NQ.atI2 | exact NQ.atI3 | exact NQ.atI4 | assumption); (case z2 => first | exact rfl | assumption))
  | ((with_reducible refine' NQ.wo_ixR_t ?z1 ?z2 ?_); (case z1 => first | exact NQ.atI0 | exact NQ.atI1 | exact NQ.atI2 | exact NQ.atI3 | exact NQ.atI4 | assumption); (case z2 => first | exact rfl | assumption))
  | ((with_reducible refine' NQ.wo_ix_s ?z1 ?z2 ?_); (case z1 => assumption); (case z2 => first | assumption | omega | (simp only [List.length_cons, List.length_nil, List.length_append, List.length_map, NQ.rg_len, List.length_range, Str.length_append] <;> omega) | decide +kernel))
  | ((with_reducible refine' NQ.wo_isi ?z1 ?z2 ?_); (case z1 => first | assumption | exact rfl); (case z2 => first | assumption | exact rfl))
  | ((with_reducible refine' NQ.wo_ix_d ?z1 ?z2 ?_); (case z1 => exact rfl); (case z2 => assumption)))
local macro_rules | `(tactic| walk_at "evq") => `(tactic| first
  | with_reducible refine NQ.wq_ePq ?_
  | with_reducible refine NQ.wq_notV ?_
  | with_reducible refine NQ.wq_isX ?_
  | ((with_reducible refine' NQ.wq_eP ?z1 ?z2 ?_); (case z1 => exact rfl); (case z2 => exact rfl))
  | ((with_reducible refine' NQ.wq_eq ?z1 ?_); (case z1 => assumption))
  | with_reducible refine NQ.wq_opq ?_
  | with_reducible refine NQ.wq_eC ?_
  | with_reducible refine NQ.wq_if ?_
  | with_reducible refine NQ.wq_andV ?_
  | with_reducible refine NQ.wq_orV ?_
  | with_reducible refine NQ.wq_ch ?_
  | ((with_reducible refine' NQ.wq_eV ?z1 ?_); (case z1 => exact rfl))
  | ((with_reducible refine NQ.g_wqo ?_); walk_at "evo"))
local macro_rules | `(tactic| walk_at "evs") => `(tactic| first
  | with_reducible refine NQ.ws_seq ?_
  | with_reducible refine NQ.ws_next ?_
  | with_reducible refine NQ.ws_brk ?_
  | with_reducible refine NQ.ws_cont ?_
  | with_reducible refine NQ.ws_set ?_
  | with_reducible refine NQ.ws_drop ?_
  | with_reducible refine NQ.ws_ret ?_
  | with_reducible refine NQ.ws_retN ?_
  | with_reducible refine NQ.ws_if ?_
  | with_reducible refine NQ.ws_for ?_
  | with_reducible refine NQ.ws_asg ?_
  | with_reducible refine NQ.ws_raise ?_
  | with_reducible refine NQ.ws_match ?_
  | with_reducible refine NQ.ws_mNil ?_
  | with_reducible refine NQ.ws_mAny ?_
  | with_reducible refine NQ.ws_mCs ?_
  | with_reducible refine NQ.ws_mCg ?_
  | with_reducible refine NQ.ws_tryAs ?_
  | with_reducible refine NQ.ws_try ?_
  | with_reducible refine NQ.ws_par2 ?_
  | with_reducible refine NQ.ws_mov ?_
  | with_reducible refine NQ.ws_bor ?_
  | with_reducible refine NQ.ws_setO ?_
  | with_reducible refine NQ.ws_forK ?_
  | with_reducible refine NQ.ws_tryA ?_
  | with_reducible refine NQ.ws_hdN ?_
  | with_reducible refine NQ.ws_hd1 ?_
  | with_reducible refine NQ.ws_hdA ?_
  | with_reducible refine NQ.ws_setN ?_
  | with_reducible refine NQ.ws_setIx ?_
  | ((with_reducible refine' NQ.ws_retV ?z1 ?_); (case z1 => exact rfl))
  | ((with_reducible refine' NQ.ws_aug ?z1 ?_); (case z1 => exact rfl))
  | ((with_reducible refine' NQ.ws_frz ?z1 ?_); (case z1 => exact rfl))
  | with_reducible refine NQ.ws_fld ?_
  | with_reducible refine NQ.ws_afld ?_
  | with_reducible refine NQ.ws_putD ?_
  | with_reducible refine NQ.ws_setP ?_)
local macro_rules | `(tactic| walk_at "eve") => `(tactic| first
  | with_reducible refine NQ.we_srt ?_
  | with_reducible refine NQ.we_sp ?_
  | with_reducible refine NQ.we_notW ?_
  | with_reducible refine NQ.we_tupRg ?_
  | with_reducible refine NQ.we_lstRg ?_
  | with_reducible refine NQ.we_ch ?_
  | with_reducible refine NQ.we_makeK ?_
  | with_reducible refine NQ.we_cm ?_
  | with_reducible refine NQ.we_lstO ?_
  | with_reducible refine NQ.we_callT ?_
  | with_reducible refine NQ.we_app ?_
  | with_reducible refine NQ.we_appP ?_
  | with_reducible refine NQ.we_newK ?_
  | with_reducible refine NQ.we_newT ?_
  | with_reducible refine NQ.we_make ?_
  | with_reducible refine NQ.we_methF ?_
  | ((with_reducible refine' NQ.we_meth ?z1 ?z2 ?_); (case z1 => exact rfl); (case z2 => decide +kernel))
  | with_reducible refine NQ.we_qE ?_
  | with_reducible refine NQ.we_opn ?_
  | with_reducible refine NQ.we_opnc ?_
  | with_reducible refine NQ.we_disp ?_
  | with_reducible refine NQ.we_call ?_
  | with_reducible refine NQ.we_if ?_
  | with_reducible refine NQ.we_andW ?_
  | with_reducible refine NQ.we_orW ?_
  | with_reducible refine NQ.we_lc ?_)
local macro_rules | `(tactic| walk_at "evt") => `(tactic| first
  | with_reducible refine NQ.wt_asB ?_
  | with_reducible refine NQ.wt_asTru ?_
  | with_reducible refine NQ.wt_not ?_
  | with_reducible refine NQ.wt_and ?_
  | with_reducible refine NQ.wt_or ?_
  | with_reducible refine NQ.wt_b ?_
  | with_reducible refine NQ.wt_i ?_
  | with_reducible refine NQ.wt_l ?_
  | with_reducible refine NQ.wt_n ?_
  | ((with_reducible refine' NQ.wt_s ?z1 ?_); (case z1 => first | assumption | omega | (simp only [List.length_cons, List.length_nil, List.length_append, List.length_map, NQ.rg_len, List.length_range, Str.length_append] <;> omega) | decide +kernel)))
local macro_rules | `(tactic| walk_at "ev1") => `(tactic| first
  | ((with_reducible refine NQ.g_wq ?_); walk_at "evq")
  | ((with_reducible refine NQ.g_ws ?_); walk_at "evs")
  | ((with_reducible refine NQ.g_we ?_); walk_at "eve")
  | ((with_reducible refine NQ.g_wt ?_); walk_at "evt")
  | ((with_reducible refine' NQ.nm_eq ?z1 ?_); (case z1 => (simp only [NQ.st0, NQ.stS, NQ.wp0, NQ.wpS, NQ.wb0, NQ.wbV, NQ.wbE, NQ.sk0, NQ.skV, NQ.skE, NQ.isO_fz, NQ.isO_vw, NQ.isO_all, NQ.isO_opt, NQ.isO_flds, NQ.isO_row, NQ.mp0, NQ.mpS, NQ.ap0, NQ.apS, NQ.rp0, NQ.rpS, if_true, if_false, Bool.false_eq_true] <;> exact rfl)))
  | with_reducible refine NQ.pw_nil ?_
  | with_reducible refine NQ.pw_fld ?_
  | with_reducible refine NQ.pw_ix ?_
  | with_reducible refine NQ.bk_mk ?_
  | with_reducible refine NQ.wi_en2 ?_
  | with_reducible refine NQ.wi_z ?_
  | with_reducible refine NQ.wo_nil ?_
  | with_reducible refine NQ.wo_new ?_
  | ((with_reducible refine' NQ.wo_mov ?z1 ?_); (case z1 => exact rfl))
  | with_reducible refine NQ.mkn ?_
  | ((with_reducible refine' NQ.mthF ?z1 ?_); (case z1 => first | assumption | decide +kernel))
  | ((with_reducible refine' NQ.fp_here ?z1 ?z2 ?_); (case z1 => (show _ < 1000; decide)); (case z2 => exact rfl))
  | with_reducible refine NQ.wa_nil ?_
  | with_reducible refine NQ.wa_val ?_
  | with_reducible refine NQ.wl_nil ?_
  | with_reducible refine NQ.wl_cons ?_
  | with_reducible refine NQ.wb_asBE ?_
  | with_reducible refine NQ.wb_asTruE ?_
  | with_reducible refine NQ.wb_qB ?_
  | with_reducible refine NQ.wb_yes ?_
  | with_reducible refine NQ.wb_not ?_
  | with_reducible refine NQ.wb_and ?_
  | with_reducible refine NQ.wb_or ?_
  | with_reducible refine NQ.wd_gN ?_
  | with_reducible refine NQ.wd_nil ?_
  | with_reducible refine NQ.wd_cons ?_
  | with_reducible refine NQ.wi_it ?_
  | with_reducible refine NQ.wi_r1 ?_
  | with_reducible refine NQ.wi_r2 ?_
  | with_reducible refine NQ.wi_en ?_
  | ((with_reducible refine' NQ.wa_var ?z1 ?_); (case z1 => exact rfl))
  | ((with_reducible refine' NQ.wd_gT ?z1 ?_); (case z1 => exact rfl))
  | ((with_reducible refine' NQ.wf_eq ?z1 ?_); (case z1 => assumption))
  | ((with_reducible refine' NQ.wf_eqX ?z1 ?_); (case z1 => assumption))
  | with_reducible refine NQ.wtw_b ?_
  | with_reducible refine NQ.wtw_n ?_
  | with_reducible refine NQ.wtw_i ?_
  | with_reducible refine NQ.wtw_l ?_
  | ((with_reducible refine' NQ.ite_t ?z1 ?_); (case z1 => first | exact rfl | assumption | exact decide_eq_true (by assumption)))
  | ((with_reducible refine' NQ.ite_f ?z1 ?_); (case z1 => first | exact rfl | assumption | exact decide_eq_false (by assumption)))
  | with_reducible refine NQ.is_mk ?_
  | ((with_reducible refine' NQ.at_mk ?z1 ?_); (case z1 => exact rfl))
  | ((with_reducible refine' NQ.so_mk ?z1 ?_); (case z1 => first | assumption | exact rfl))
  | ((with_reducible refine' NQ.s2_mk ?z1 ?_); (case z1 => first | assumption))
  | ((with_reducible refine' NQ.so_mk (t := true) ?z1 ?_); (case z1 => decide +kernel))
  | ((with_reducible refine' NQ.so_mk (t := false) ?z1 ?_); (case z1 => decide +kernel))
  | ((with_reducible refine' NQ.sd_mk ?z1 ?_); (case z1 => first | exact rfl | assumption | omega | exact NQ.insAt_c rfl rfl | exact NQ.insAt_c rfl (NQ.insAt_c rfl rfl) | exact ⟨_, _, rfl⟩ | (simp only [List.length_cons, List.length_nil, List.length_append, List.length_map, NQ.rg_len, List.length_range, NQ.sz_eq] <;> omega) | decide))
  | ((with_reducible refine' NQ.fn_mk ?z1 ?_); (case z1 => walk_at "fin"))
  | ((with_reducible refine' NQ.wf_fn ?_)))
local macro_rules | `(tactic| walk_at "ev") => `(tactic| repeat walk_at "ev1")
local macro_rules | `(tactic| walk_at "evro") => `(tactic| first
  | ((with_reducible refine' NQ.wo_ix_l ?z1 ?_); (case z1 => first | exact NQ.atI0 | exact NQ.atI1 | exact NQ.atI2 | exact NQ.atI3 | exact NQ.atI4 | with_reducible assumption))
  | ((with_reducible refine' NQ.wo_ix_t ?z1 ?_); (case z1 => first | exact NQ.atI0 | exact NQ.atI1 | exact NQ.atI2 | exact NQ.atI3 | exact NQ.atI4 | with_reducible assumption))
  | ((with_reducible refine' NQ.wo_fld ?z1 ?_); (case z1 => exact rfl))
  | ((with_reducible refine' NQ.wo_eq ?z1 ?_); (case z1 => first | with_reducible assumption | exact NQ.eqB_ii | exact NQ.eqB_ss | exact NQ.eqB_bb | exact NQ.eqB_pl 9 (by first | rfl | with_reducible assumption) (by first | rfl | with_reducible assumption)))
  | ((with_reducible refine' NQ.wo_ne ?z1 ?_); (case z1 => first | with_reducible assumption | exact NQ.eqB_ii | exact NQ.eqB_ss | exact NQ.eqB_bb | exact NQ.eqB_pl 9 (by first | rfl | with_reducible assumption) (by first | rfl | with_reducible assumption)))
  | with_reducible refine NQ.wo_addi ?_
  | with_reducible refine NQ.wo_len_l ?_
  | ((with_reducible refine' NQ.wo_ix_dt ?z1 ?z2 ?_); (case z1 => first | exact rfl | with_reducible assumption); (case z2 => with_reducible assumption))
  | with_reducible refine NQ.wo_addAi ?_
  | with_reducible refine NQ.wo_addI ?_
  | with_reducible refine NQ.wo_subI ?_
  | with_reducible refine NQ.wo_subi ?_
  | with_reducible refine NQ.wo_cmp ?_
  | with_reducible refine NQ.wo_neg ?_
  | with_reducible refine NQ.wo_isN ?_
  | with_reducible refine NQ.wo_notN ?_
  | with_reducible refine NQ.wo_len_t ?_
  | with_reducible refine NQ.wo_len_c ?_
  | with_reducible refine NQ.wo_int_i ?_
  | with_reducible refine NQ.wo_int_b ?_
  | with_reducible refine NQ.wo_str_s ?_
  | with_reducible refine NQ.wo_abs ?_
  | with_reducible refine NQ.wo_max ?_
  | with_reducible refine NQ.wo_min ?_
  | with_reducible refine NQ.wo_list_l ?_
  | with_reducible refine NQ.wo_list_t ?_
  | with_reducible refine NQ.wo_list_c ?_
  | with_reducible refine NQ.wo_tuple ?_
  | with_reducible refine NQ.wo_slL1 ?_
  | with_reducible refine NQ.wo_slL2 ?_
  | with_reducible refine NQ.wo_slL3 ?_
  | ((with_reducible refine' NQ.wo_adds ?z1 ?_); (case z1 => first | with_reducible assumption | omega | (simp only [List.length_cons, List.length_nil, List.length_append, List.length_map, NQ.rg_len, List.length_range, Str.length_append] <;> omega) | decide +kernel))
  | ((with_reducible refine' NQ.wo_addAs ?z1 ?_); (case z1 => first | with_reducible assumption | omega | (simp only [List.length_cons, List.length_nil, List.length_append, List.length_map, NQ.rg_len, List.length_range, Str.length_append] <;> omega) | decide +kernel))
  | ((with_reducible refine' NQ.wo_addL ?z1 ?_); (case z1 => first | with_reducible assumption | omega | (simp only [List.length_cons, List.length_nil, List.length_append, List.length_map, NQ.rg_len, List.length_range, Str.length_append] <;> omega) | decide +kernel))
  | ((with_reducible refine' NQ.wo_addAl ?z1 ?_); (case z1 => first | with_reducible assumption | omega | (simp only [List.length_cons, List.length_nil, List.length_append, List.length_map, NQ.rg_len, List.length_range, Str.length_append] <;> omega) | decide +kernel))
  | ((with_reducible refine' NQ.wo_addU ?z1 ?_); (case z1 => first | with_reducible assumption | omega | (simp only [List.length_cons, List.length_nil, List.length_append, List.length_map, NQ.rg_len, List.length_range, Str.length_append] <;> omega) | decide +kernel))
  | ((with_reducible refine' NQ.wo_len_s ?z1 ?_); (case z1 => first | with_reducible assumption | omega | (simp only [List.length_cons, List.length_nil, List.length_append, List.length_map, NQ.rg_len, List.length_range, Str.length_append] <;> omega) | decide +kernel))
  | ((with_reducible refine' NQ.wo_list_s ?z1 ?_); (case z1 => first | with_reducible assumption | omega | (simp only [List.length_cons, List.length_nil, List.length_append, List.length_map, NQ.rg_len, List.length_range, Str.length_append] <;> omega) | decide +kernel))
  | ((with_reducible refine' NQ.wo_lst ?z1 ?_); (case z1 => first | with_reducible assumption | omega | (simp only [List.length_cons, List.length_nil, List.length_append, List.length_map, NQ.rg_len, List.length_range, Str.length_append] <;> omega) | decide +kernel))
  | ((with_reducible refine' NQ.wo_tup ?z1 ?_); (case z1 => first | with_reducible assumption | omega | (simp only [List.length_cons, List.length_nil, List.length_append, List.length_map, NQ.rg_len, List.length_range, Str.length_append] <;> omega) | decide +kernel))
  | ((with_reducible refine' NQ.wo_slS1 ?z1 ?_); (case z1 => first | with_reducible assumption | omega | (simp only [List.length_cons, List.length_nil, List.length_append, List.length_map, NQ.rg_len, List.length_range, Str.length_append] <;> omega) | decide +kernel))
  | ((with_reducible refine' NQ.wo_slS2 ?z1 ?_); (case z1 => first | with_reducible assumption | omega | (simp only [List.length_cons, List.length_nil, List.length_append, List.length_map, NQ.rg_len, List.length_range, Str.length_append] <;> omega) | decide +kernel))
  | ((with_reducible refine' NQ.wo_slS3 ?z1 ?_); (case z1 => first | with_reducible assumption | omega | (simp only [List.length_cons, List.length_nil, List.length_append, List.length_map, NQ.rg_len, List.length_range, Str.length_append] <;> omega) | decide +kernel))
  | ((with_reducible refine' NQ.wo_words ?z1 ?_); (case z1 => first | with_reducible assumption | omega | (simp only [List.length_cons, List.length_nil, List.length_append, List.length_map, NQ.rg_len, List.length_range, Str.length_append] <;> omega) | decide +kernel))
  | ((with_reducible refine' NQ.wo_strip ?z1 ?_); (case z1 => first | with_reducible assumption | omega | (simp only [List.length_cons, List.length_nil, List.length_append, List.length_map, NQ.rg_len, List.length_range, Str.length_append] <;> omega) | decide +kernel))
  | ((with_reducible refine' NQ.wo_muliR ?z1 ?z2 ?_); (case z1 => first | omega | with_reducible assumption | decide); (case z2 => first | omega | with_reducible assumption | decide))
  | ((with_reducible refine' NQ.wo_muliL ?z1 ?z2 ?_); (case z1 => first | omega | with_reducible assumption | decide); (case z2 => first | omega | with_reducible assumption | decide))
  | ((with_reducible refine' NQ.wo_mulAR ?z1 ?z2 ?_); (case z1 => first | omega | with_reducible assumption | decide); (case z2 => first | omega | with_reducible assumption | decide))
  | ((with_reducible refine' NQ.wo_mulAL ?z1 ?z2 ?_); (case z1 => first | omega | with_reducible assumption | decide); (case z2 => first | omega | with_reducible assumption | decide))
  | ((with_reducible refine' NQ.wo_muls ?z1 ?_); (case z1 => (refine ⟨?_, ?_, ?_⟩ <;> first | omega | decide | (exact Nat.le_of_ble_eq_true rfl) | (simp only [List.length_cons, List.length_nil, List.length_append, List.length_map, NQ.rg_len, List.length_range, Str.length_append] <;> omega) | with_reducible assumption)))
  | ((with_reducible refine' NQ.wo_mulL ?z1 ?_); (case z1 => (refine ⟨?_, ?_, ?_⟩ <;> first | omega | decide | (exact Nat.le_of_ble_eq_true rfl) | (simp only [List.length_cons, List.length_nil, List.length_append, List.length_map, NQ.rg_len, List.length_range, Str.length_append] <;> omega) | with_reducible assumption)))
  | ((with_reducible refine' NQ.wo_mulAl ?z1 ?_); (case z1 => (refine ⟨?_, ?_, ?_⟩ <;> first | omega | decide | (exact Nat.le_of_ble_eq_true rfl) | (simp only [List.length_cons, List.length_nil, List.length_append, List.length_map, NQ.rg_len, List.length_range, Str.length_append] <;> omega) | with_reducible assumption)))
  | ((with_reducible refine' NQ.wo_modi ?z1 ?_); (case z1 => first | omega | with_reducible assumption | decide))
  | ((with_reducible refine' NQ.wo_divi ?z1 ?z2 ?_); (case z1 => first | omega | with_reducible assumption | decide); (case z2 => first | omega | with_reducible assumption | decide))
  | ((with_reducible refine' NQ.wo_powi ?z1 ?z2 ?z3 ?z4 ?_); (case z1 => first | omega | with_reducible assumption | decide); (case z2 => first | omega | with_reducible assumption | decide); (case z3 => first | omega | with_reducible assumption | decide); (case z4 => first | omega | with_reducible assumption | decide))
  | ((with_reducible refine' NQ.wo_in ?z1 ?_); (case z1 => first | with_reducible assumption | exact NQ.memB_ch (by first | rfl | with_reducible assumption) | exact NQ.memB_c (by first | rfl | with_reducible assumption) | exact NQ.memB_l (by first | rfl | with_reducible assumption) (by first | rfl | with_reducible assumption) | exact NQ.memB_t (by first | rfl | with_reducible assumption) (by first | rfl | with_reducible assumption)))
  | ((with_reducible refine' NQ.wo_nin ?z1 ?_); (case z1 => first | with_reducible assumption | exact NQ.memB_ch (by first | rfl | with_reducible assumption) | exact NQ.memB_c (by first | rfl | with_reducible assumption) | exact NQ.memB_l (by first | rfl | with_reducible assumption) (by first | rfl | with_reducible assumption) | exact NQ.memB_t (by first | rfl | with_reducible assumption) (by first | rfl | with_reducible assumption)))
  | ((with_reducible refine' NQ.wo_disp ?z1 ?z2 ?z3 ?_); (case z1 => decide +kernel); (case z2 => exact rfl); (case z3 => decide))
  | ((with_reducible refine' NQ.wo_split ?z1 ?z2 ?_); (case z1 => first | exact rfl | with_reducible assumption | decide +kernel); (case z2 => first | with_reducible assumption | omega | (simp only [List.length_cons, List.length_nil, List.length_append, List.length_map, NQ.rg_len, List.length_range, Str.length_append] <;> omega) | decide +kernel))
  | ((with_reducible refine' NQ.wo_join ?z1 ?z2 ?_); (case z1 => first | with_reducible assumption | exact rfl); (case z2 => first | with_reducible assumption))
  | ((with_reducible refine' NQ.wo_ixR_l ?z1 ?z2 ?_); (case z1 => first | exact NQ.atI0 | exact NQ.atI1 | exact NQ.atI2 | exact NQ.atI3 | exact NQ.atI4 | with_reducible assumption); (case z2 => first | exact rfl | with_reducible assumption))
  | ((with_reducible refine' NQ.wo_ixR_t ?z1 ?z2 ?_); (case z1 => first | exact NQ.atI0 | exact NQ.atI1 | exact NQ.atI2 | exact NQ.atI3 | exact NQ.atI4 | with_reducible assumption); (case z2 => first | exact rfl | with_reducible assumption))
  | ((with_reducible refine' NQ.wo_ix_s ?z1 ?z2 ?_); (case z1 => with_reducible assumption); (case z2 => first | with_reducible assumption | omega | (simp only [List.length_cons, List.length_nil, List.length_append, List.length_map, NQ.rg_len, List.length_range, Str.length_append] <;> omega) | decide +kernel))
  | ((with_reducible refine' NQ.wo_isi ?z1 ?z2 ?_); (case z1 => first | with_reducible assumption | exact rfl); (case z2 => first | with_reducible assumption | exact rfl))
  | ((with_reducible refine' NQ.wo_ix_d ?z1 ?z2 ?_); (case z1 => exact rfl); (case z2 => with_reducible assumption)))
local macro_rules | `(tactic| walk_at "evrq") => `(tactic| first
  | with_reducible refine NQ.wq_ePq ?_
  | with_reducible refine NQ.wq_notV ?_
  | with_reducible refine NQ.wq_isX ?_
  | ((with_reducible refine' NQ.wq_eP ?z1 ?z2 ?_); (case z1 => exact rfl); (case z2 => exact rfl))
  | ((with_reducible refine' NQ.wq_eq ?z1 ?_); (case z1 => with_reducible assumption))
  | with_reducible refine NQ.wq_opq ?_
  | with_reducible refine NQ.wq_eC ?_
  | with_reducible refine NQ.wq_if ?_
  | with_reducible refine NQ.wq_andV ?_
  | with_reducible refine NQ.wq_orV ?_
  | with_reducible refine NQ.wq_ch ?_
  | ((with_reducible refine' NQ.wq_eV ?z1 ?_); (case z1 => exact rfl))
  | ((with_reducible refine NQ.g_wqo ?_); walk_at "evro"))
local macro_rules | `(tactic| walk_at "evrs") => `(tactic| first
  | with_reducible refine NQ.ws_seq ?_
  | with_reducible refine NQ.ws_next ?_
  | with_reducible refine NQ.ws_brk ?_
  | with_reducible refine NQ.ws_cont ?_
  | with_reducible refine NQ.ws_set ?_
  | with_reducible refine NQ.ws_drop ?_
  | with_reducible refine NQ.ws_ret ?_
  | with_reducible refine NQ.ws_retN ?_
  | with_reducible refine NQ.ws_if ?_
  | with_reducible refine NQ.ws_for ?_
  | with_reducible refine NQ.ws_asg ?_
  | with_reducible refine NQ.ws_raise ?_
  | with_reducible refine NQ.ws_match ?_
  | with_reducible refine NQ.ws_mNil ?_
  | with_reducible refine NQ.ws_mAny ?_
  | with_reducible refine NQ.ws_mCs ?_
  | with_reducible refine NQ.ws_mCg ?_
  | with_reducible refine NQ.ws_tryAs ?_
  | with_reducible refine NQ.ws_try ?_
  | with_reducible refine NQ.ws_par2 ?_
  | with_reducible refine NQ.ws_mov ?_
  | with_reducible refine NQ.ws_bor ?_
  | with_reducible refine NQ.ws_setO ?_
  | with_reducible refine NQ.ws_forK ?_
  | with_reducible refine NQ.ws_tryA ?_
  | with_reducible refine NQ.ws_hdN ?_
  | with_reducible refine NQ.ws_hd1 ?_
  | with_reducible refine NQ.ws_hdA ?_
  | with_reducible refine NQ.ws_setN ?_
  | with_reducible refine NQ.ws_setIx ?_
  | ((with_reducible refine' NQ.ws_retV ?z1 ?_); (case z1 => exact rfl))
  | ((with_reducible refine' NQ.ws_aug ?z1 ?_); (case z1 => exact rfl))
  | ((with_reducible refine' NQ.ws_frz ?z1 ?_); (case z1 => exact rfl))
  | with_reducible refine NQ.ws_fld ?_
  | with_reducible refine NQ.ws_afld ?_
  | with_reducible refine NQ.ws_putD ?_
  | with_reducible refine NQ.ws_setP ?_)
local macro_rules | `(tactic| walk_at "evre") => `(tactic| first
  | with_reducible refine NQ.we_srt ?_
  | with_reducible refine NQ.we_sp ?_
  | with_reducible refine NQ.we_notW ?_
  | with_reducible refine NQ.we_tupRg ?_
  | with_reducible refine NQ.we_lstRg ?_
  | with_reducible refine NQ.we_ch ?_
  | with_reducible refine NQ.we_makeK ?_
  | with_reducible refine NQ.we_cm ?_
  | with_reducible refine NQ.we_lstO ?_
  | with_reducible refine NQ.we_callT ?_
  | with_reducible refine NQ.we_app ?_
  | with_reducible refine NQ.we_appP ?_
  | with_reducible refine NQ.we_newK ?_
  | with_reducible refine NQ.we_newT ?_
  | with_reducible refine NQ.we_make ?_
  | with_reducible refine NQ.we_methF ?_
  | ((with_reducible refine' NQ.we_meth ?z1 ?z2 ?_); (case z1 => exact rfl); (case z2 => decide +kernel))
  | with_reducible refine NQ.we_qE ?_
  | with_reducible refine NQ.we_opn ?_
  | with_reducible refine NQ.we_opnc ?_
  | with_reducible refine NQ.we_disp ?_
  | with_reducible refine NQ.we_call ?_
  | with_reducible refine NQ.we_if ?_
  | with_reducible refine NQ.we_andW ?_
  | with_reducible refine NQ.we_orW ?_
  | with_reducible refine NQ.we_lc ?_)
local macro_rules | `(tactic| walk_at "evrt") => `(tactic| first
  | with_reducible refine NQ.wt_asB ?_
  | with_reducible refine NQ.wt_asTru ?_
  | with_reducible refine NQ.wt_not ?_
  | with_reducible refine NQ.wt_and ?_
  | with_reducible refine NQ.wt_or ?_
  | with_reducible refine NQ.wt_b ?_
  | with_reducible refine NQ.wt_i ?_
  | with_reducible refine NQ.wt_l ?_
  | with_reducible refine NQ.wt_n ?_
  | ((with_reducible refine' NQ.wt_s ?z1 ?_); (case z1 => first | with_reducible assumption | omega | (simp only [List.length_cons, List.length_nil, List.length_append, List.length_map, NQ.rg_len, List.length_range, Str.length_append] <;> omega) | decide +kernel)))
local macro_rules | `(tactic| walk_at "evr1") => `(tactic| first
  | ((with_reducible refine NQ.g_wq ?_); walk_at "evrq")
  | ((with_reducible refine NQ.g_ws ?_); walk_at "evrs")
  | ((with_reducible refine NQ.g_we ?_); walk_at "evre")
  | ((with_reducible refine NQ.g_wt ?_); walk_at "evrt")
  | ((with_reducible refine' NQ.nm_eq ?z1 ?_); (case z1 => (simp only [NQ.st0, NQ.stS, NQ.wp0, NQ.wpS, NQ.wb0, NQ.wbV, NQ.wbE, NQ.sk0, NQ.skV, NQ.skE, NQ.isO_fz, NQ.isO_vw, NQ.isO_all, NQ.isO_opt, NQ.isO_flds, NQ.isO_row, NQ.mp0, NQ.mpS, NQ.ap0, NQ.apS, NQ.rp0, NQ.rpS, if_true, if_false, Bool.false_eq_true] <;> exact rfl)))
  | with_reducible refine NQ.pw_nil ?_
  | with_reducible refine NQ.pw_fld ?_
  | with_reducible refine NQ.pw_ix ?_
  | with_reducible refine NQ.bk_mk ?_
  | with_reducible refine NQ.wi_en2 ?_
  | with_reducible refine NQ.wi_z ?_
  | with_reducible refine NQ.wo_nil ?_
  | with_reducible refine NQ.wo_new ?_
  | ((with_reducible refine' NQ.wo_mov ?z1 ?_); (case z1 => exact rfl))
  | with_reducible refine NQ.mkn ?_
  | ((with_reducible refine' NQ.mthF ?z1 ?_); (case z1 => first | with_reducible assumption | decide +kernel))
  | ((with_reducible refine' NQ.fp_here ?z1 ?z2 ?_); (case z1 => (show _ < 1000; decide)); (case z2 => exact rfl))
  | with_reducible refine NQ.wa_nil ?_
  | with_reducible refine NQ.wa_val ?_
  | with_reducible refine NQ.wl_nil ?_
  | with_reducible refine NQ.wl_cons ?_
  | with_reducible refine NQ.wb_asBE ?_
  | with_reducible refine NQ.wb_asTruE ?_
  | with_reducible refine NQ.wb_qB ?_
  | with_reducible refine NQ.wb_yes ?_
  | with_reducible refine NQ.wb_not ?_
  | with_reducible refine NQ.wb_and ?_
  | with_reducible refine NQ.wb_or ?_
  | with_reducible refine NQ.wd_gN ?_
  | with_reducible refine NQ.wd_nil ?_
  | with_reducible refine NQ.wd_cons ?_
  | with_reducible refine NQ.wi_it ?_
  | with_reducible refine NQ.wi_r1 ?_
  | with_reducible refine NQ.wi_r2 ?_
  | with_reducible refine NQ.wi_en ?_
  | ((with_reducible refine' NQ.wa_var ?z1 ?_); (case z1 => exact rfl))
  | ((with_reducible refine' NQ.wd_gT ?z1 ?_); (case z1 => exact rfl))
  | ((with_reducible refine' NQ.wf_eq ?z1 ?_); (case z1 => with_reducible assumption))
  | ((with_reducible refine' NQ.wf_eqX ?z1 ?_); (case z1 => with_reducible assumption))
  | with_reducible refine NQ.wtw_b ?_
  | with_reducible refine NQ.wtw_n ?_
  | with_reducible refine NQ.wtw_i ?_
  | with_reducible refine NQ.wtw_l ?_
  | ((with_reducible refine' NQ.ite_t ?z1 ?_); (case z1 => first | exact rfl | with_reducible assumption | exact decide_eq_true (by with_reducible assumption)))
  | ((with_reducible refine' NQ.ite_f ?z1 ?_); (case z1 => first | exact rfl | with_reducible assumption | exact decide_eq_false (by with_reducible assumption)))
  | with_reducible refine NQ.is_mk ?_
  | ((with_reducible refine' NQ.at_mk ?z1 ?_); (case z1 => exact rfl))
  | ((with_reducible refine' NQ.so_mk ?z1 ?_); (case z1 => first | with_reducible assumption | exact rfl))
  | ((with_reducible refine' NQ.s2_mk ?z1 ?_); (case z1 => first | with_reducible assumption))
  | ((with_reducible refine' NQ.so_mk (t := true) ?z1 ?_); (case z1 => decide +kernel))
  | ((with_reducible refine' NQ.so_mk (t := false) ?z1 ?_); (case z1 => decide +kernel))
  | ((with_reducible refine' NQ.sd_mk ?z1 ?_); (case z1 => first | exact rfl | with_reducible assumption | omega | exact NQ.insAt_c rfl rfl | exact NQ.insAt_c rfl (NQ.insAt_c rfl rfl) | exact ⟨_, _, rfl⟩ | (simp only [List.length_cons, List.length_nil, List.length_append, List.length_map, NQ.rg_len, List.length_range, NQ.sz_eq] <;> omega) | decide))
  | ((with_reducible refine' NQ.fn_mk ?z1 ?_); (case z1 => walk_at "fin"))
  | ((with_reducible refine' NQ.wf_fn ?_)))
local macro_rules | `(tactic| walk_at "evr") => `(tactic| repeat walk_at "evr1")
def top (i : Nat) : Stmt := PySem.Challenge.pw_nowlater_k12_errors_made.main.body.getD i (.Pass ⟨0, 0, 0, 0⟩)
abbrev FnP (K : PySem.W.Frag) (x qual : Str) (st : Stmt) (f : Addr) (fd : FuncData) : Prop := FunD K x qual (defArgs st) (defBody st) (defScope st) [] [] f fd
def xcs : List (Str × Str) := [("BadSum", "at"), ("BadCondition", "at"), ("BadProgram", "at"), ("BadMoment", "moment"), ("BadArgument", "argument"), ("BadAnswer", "answer"), ("Unlike", "what"), ("BadWorld", "thing"), ("BadMove", "at"), ("BadSchedule", "at"), ("BadLine", "at"), ("BadReport", "at"), ("TooMany", "what"), ("UnknownRequest", "name"), ("UnknownEvent", "name"), ("UnknownState", "state"), ("NoReport", "at"), ("NotMovable", "at"), ("NotIdle", "what"), ("ScopeOver", "what")]
def xcl (i : Nat) : Str := (xcs.getD i ("", "")).1
def xfl (i : Nat) : Str := (xcs.getD i ("", "")).2
/-- which of the classes an exception of a class belongs to -/
def xkB (K : PySem.W.Frag) : Bool := (List.range 20).all fun i => ((List.range 20).all fun j => decide (PySem.W.kitOne K (.ref (He.ga K (xcl i))) (.ref (He.ga K (xcl j))) = some (decide (i = j)))) &&
  (decide (PySem.W.kitOne K (.ref (He.ga K (xcl i))) (.ref (He.ga K "NowlaterError")) = some (decide (i < 13))) && (decide (PySem.W.kitOne K (.ref (He.ga K (xcl i))) (.type "Exception") = some true) && (decide (PySem.W.kitOne K (.ref (He.ga K (xcl i))) (.type "ValueError") = some (decide (i < 13))) &&
  (decide (PySem.W.kitOne K (.ref (He.ga K (xcl i))) (.type "LookupError") = some (decide (13 ≤ i) && decide (i < 18))) && (decide (PySem.W.kitOne K (.ref (He.ga K (xcl i))) (.type "RuntimeError") = some (decide (18 ≤ i))) && decide (PySem.W.kitAny K (.ref (He.ga K (xcl i))) [.type "KeyError", .type "IndexError"] = some false))))))
theorem xk_at {K : PySem.W.Frag} (h : xkB K = true) {i : Nat} (hi : i < 20) : (∀ j, j < 20 → PySem.W.kitOne K (.ref (He.ga K (xcl i))) (.ref (He.ga K (xcl j))) = some (decide (i = j))) ∧
    PySem.W.kitOne K (.ref (He.ga K (xcl i))) (.ref (He.ga K "NowlaterError")) = some (decide (i < 13)) ∧ PySem.W.kitOne K (.ref (He.ga K (xcl i))) (.type "Exception") = some true ∧ PySem.W.kitOne K (.ref (He.ga K (xcl i))) (.type "ValueError") = some (decide (i < 13)) ∧
    PySem.W.kitOne K (.ref (He.ga K (xcl i))) (.type "LookupError") = some (decide (13 ≤ i) && decide (i < 18)) ∧ PySem.W.kitOne K (.ref (He.ga K (xcl i))) (.type "RuntimeError") = some (decide (18 ≤ i)) ∧ PySem.W.kitAny K (.ref (He.ga K (xcl i))) [.type "KeyError", .type "IndexError"] = some false := by
  have := List.all_eq_true.mp h i (List.mem_range.mpr hi)
  simp only [Bool.and_eq_true, decide_eq_true_eq] at this
  obtain ⟨h1, h2, h3, h4, h5, h6, h7⟩ := this
  exact ⟨fun j hj => of_decide_eq_true (List.all_eq_true.mp h1 j (List.mem_range.mpr hj)), h2, h3, h4, h5, h6, h7⟩

structure Txt (K : PySem.W.Frag) (mg : Str → Option Value) : Prop where
  n_Exception : mg "Exception" = none
  n_IndexError : mg "IndexError" = none
  n_KeyError : mg "KeyError" = none
  n_LookupError : mg "LookupError" = none
  n_RuntimeError : mg "RuntimeError" = none
  n_ValueError : mg "ValueError" = none
  n_abs : mg "abs" = none
  n_enumerate : mg "enumerate" = none
  n_int : mg "int" = none
  n_isinstance : mg "isinstance" = none
  n_len : mg "len" = none
  n_max : mg "max" = none
  n_min : mg "min" = none
  n_range : mg "range" = none
  n_repr : mg "repr" = none
  g_BadAnswer : GV mg "BadAnswer" (.ref (He.ga K "BadAnswer"))
  m_BadAnswer : mg "BadAnswer" = some (.ref (He.ga K "BadAnswer"))
  g_BadArgument : GV mg "BadArgument" (.ref (He.ga K "BadArgument"))
  m_BadArgument : mg "BadArgument" = some (.ref (He.ga K "BadArgument"))
  g_BadCondition : GV mg "BadCondition" (.ref (He.ga K "BadCondition"))
  m_BadCondition : mg "BadCondition" = some (.ref (He.ga K "BadCondition"))
  g_BadLine : GV mg "BadLine" (.ref (He.ga K "BadLine"))
  m_BadLine : mg "BadLine" = some (.ref (He.ga K "BadLine"))
  g_BadMoment : GV mg "BadMoment" (.ref (He.ga K "BadMoment"))
  m_BadMoment : mg "BadMoment" = some (.ref (He.ga K "BadMoment"))
  g_BadMove : GV mg "BadMove" (.ref (He.ga K "BadMove"))
  m_BadMove : mg "BadMove" = some (.ref (He.ga K "BadMove"))
  g_BadProgram : GV mg "BadProgram" (.ref (He.ga K "BadProgram"))
  m_BadProgram : mg "BadProgram" = some (.ref (He.ga K "BadProgram"))
  g_BadReport : GV mg "BadReport" (.ref (He.ga K "BadReport"))
  m_BadReport : mg "BadReport" = some (.ref (He.ga K "BadReport"))
  g_BadSchedule : GV mg "BadSchedule" (.ref (He.ga K "BadSchedule"))
  m_BadSchedule : mg "BadSchedule" = some (.ref (He.ga K "BadSchedule"))
  g_BadSum : GV mg "BadSum" (.ref (He.ga K "BadSum"))
  m_BadSum : mg "BadSum" = some (.ref (He.ga K "BadSum"))
  g_BadWorld : GV mg "BadWorld" (.ref (He.ga K "BadWorld"))
  m_BadWorld : mg "BadWorld" = some (.ref (He.ga K "BadWorld"))
  g_NoReport : GV mg "NoReport" (.ref (He.ga K "NoReport"))
  m_NoReport : mg "NoReport" = some (.ref (He.ga K "NoReport"))
  g_NotIdle : GV mg "NotIdle" (.ref (He.ga K "NotIdle"))
  m_NotIdle : mg "NotIdle" = some (.ref (He.ga K "NotIdle"))
  g_NotMovable : GV mg "NotMovable" (.ref (He.ga K "NotMovable"))
  m_NotMovable : mg "NotMovable" = some (.ref (He.ga K "NotMovable"))
  g_NowlaterError : GV mg "NowlaterError" (.ref (He.ga K "NowlaterError"))
  m_NowlaterError : mg "NowlaterError" = some (.ref (He.ga K "NowlaterError"))
  g_ScopeOver : GV mg "ScopeOver" (.ref (He.ga K "ScopeOver"))
  m_ScopeOver : mg "ScopeOver" = some (.ref (He.ga K "ScopeOver"))
  g_TooMany : GV mg "TooMany" (.ref (He.ga K "TooMany"))
  m_TooMany : mg "TooMany" = some (.ref (He.ga K "TooMany"))
  g_UnknownEvent : GV mg "UnknownEvent" (.ref (He.ga K "UnknownEvent"))
  m_UnknownEvent : mg "UnknownEvent" = some (.ref (He.ga K "UnknownEvent"))
  g_UnknownRequest : GV mg "UnknownRequest" (.ref (He.ga K "UnknownRequest"))
  m_UnknownRequest : mg "UnknownRequest" = some (.ref (He.ga K "UnknownRequest"))
  g_UnknownState : GV mg "UnknownState" (.ref (He.ga K "UnknownState"))
  m_UnknownState : mg "UnknownState" = some (.ref (He.ga K "UnknownState"))
  g_Unlike : GV mg "Unlike" (.ref (He.ga K "Unlike"))
  m_Unlike : mg "Unlike" = some (.ref (He.ga K "Unlike"))
  xk : xkB K = true
  kc_BadSum : ExcC K (He.ga K "BadSum")
  xf_BadSum : XfC K (He.ga K "BadSum")
  xn_BadSum : PySem.W.findIn K (.ref (He.ga K "BadSum")) "at" = some none
  kc_BadCondition : ExcC K (He.ga K "BadCondition")
  xf_BadCondition : XfC K (He.ga K "BadCondition")
  xn_BadCondition : PySem.W.findIn K (.ref (He.ga K "BadCondition")) "at" = some none
  kc_BadProgram : ExcC K (He.ga K "BadProgram")
  xf_BadProgram : XfC K (He.ga K "BadProgram")
  xn_BadProgram : PySem.W.findIn K (.ref (He.ga K "BadProgram")) "at" = some none
  kc_BadMoment : ExcC K (He.ga K "BadMoment")
  xf_BadMoment : XfC K (He.ga K "BadMoment")
  xn_BadMoment : PySem.W.findIn K (.ref (He.ga K "BadMoment")) "moment" = some none
  kc_BadArgument : ExcC K (He.ga K "BadArgument")
  xf_BadArgument : XfC K (He.ga K "BadArgument")
  xn_BadArgument : PySem.W.findIn K (.ref (He.ga K "BadArgument")) "argument" = some none
  kc_BadAnswer : ExcC K (He.ga K "BadAnswer")
  xf_BadAnswer : XfC K (He.ga K "BadAnswer")
  xn_BadAnswer : PySem.W.findIn K (.ref (He.ga K "BadAnswer")) "answer" = some none
  kc_Unlike : ExcC K (He.ga K "Unlike")
  xf_Unlike : XfC K (He.ga K "Unlike")
  xn_Unlike : PySem.W.findIn K (.ref (He.ga K "Unlike")) "what" = some none
  kc_BadWorld : ExcC K (He.ga K "BadWorld")
  xf_BadWorld : XfC K (He.ga K "BadWorld")
  xn_BadWorld : PySem.W.findIn K (.ref (He.ga K "BadWorld")) "thing" = some none
  kc_BadMove : ExcC K (He.ga K "BadMove")
  xf_BadMove : XfC K (He.ga K "BadMove")
  xn_BadMove : PySem.W.findIn K (.ref (He.ga K "BadMove")) "at" = some none
  kc_BadSchedule : ExcC K (He.ga K "BadSchedule")
  xf_BadSchedule : XfC K (He.ga K "BadSchedule")
  xn_BadSchedule : PySem.W.findIn K (.ref (He.ga K "BadSchedule")) "at" = some none
  kc_BadLine : ExcC K (He.ga K "BadLine")
  xf_BadLine : XfC K (He.ga K "BadLine")
  xn_BadLine : PySem.W.findIn K (.ref (He.ga K "BadLine")) "at" = some none
  kc_BadReport : ExcC K (He.ga K "BadReport")
  xf_BadReport : XfC K (He.ga K "BadReport")
  xn_BadReport : PySem.W.findIn K (.ref (He.ga K "BadReport")) "at" = some none
  kc_TooMany : ExcC K (He.ga K "TooMany")
  xf_TooMany : XfC K (He.ga K "TooMany")
  xn_TooMany : PySem.W.findIn K (.ref (He.ga K "TooMany")) "what" = some none
  kc_UnknownRequest : ExcC K (He.ga K "UnknownRequest")
  xf_UnknownRequest : XfC K (He.ga K "UnknownRequest")
  xn_UnknownRequest : PySem.W.findIn K (.ref (He.ga K "UnknownRequest")) "name" = some none
  kc_UnknownEvent : ExcC K (He.ga K "UnknownEvent")
  xf_UnknownEvent : XfC K (He.ga K "UnknownEvent")
  xn_UnknownEvent : PySem.W.findIn K (.ref (He.ga K "UnknownEvent")) "name" = some none
  kc_UnknownState : ExcC K (He.ga K "UnknownState")
  xf_UnknownState : XfC K (He.ga K "UnknownState")
  xn_UnknownState : PySem.W.findIn K (.ref (He.ga K "UnknownState")) "state" = some none
  kc_NoReport : ExcC K (He.ga K "NoReport")
  xf_NoReport : XfC K (He.ga K "NoReport")
  xn_NoReport : PySem.W.findIn K (.ref (He.ga K "NoReport")) "at" = some none
  kc_NotMovable : ExcC K (He.ga K "NotMovable")
  xf_NotMovable : XfC K (He.ga K "NotMovable")
  xn_NotMovable : PySem.W.findIn K (.ref (He.ga K "NotMovable")) "at" = some none
  kc_NotIdle : ExcC K (He.ga K "NotIdle")
  xf_NotIdle : XfC K (He.ga K "NotIdle")
  xn_NotIdle : PySem.W.findIn K (.ref (He.ga K "NotIdle")) "what" = some none
  kc_ScopeOver : ExcC K (He.ga K "ScopeOver")
  xf_ScopeOver : XfC K (He.ga K "ScopeOver")
  xn_ScopeOver : PySem.W.findIn K (.ref (He.ga K "ScopeOver")) "what" = some none
  xm_BadMove_NowlaterError : PySem.W.exmOne K (.ref (He.ga K "BadMove")) (.ref (He.ga K "NowlaterError")) = some true
abbrev s_law_seed : Stmt := (top 23)
theorem sc_law_seed : FnScope ["_law_script", "_law_at", "_law_cell", "_law_mixed", "_law_k", "_law_each"] ["_law_script", "_law_at"] (defScope s_law_seed) := ⟨rfl, rfl, rfl, by decide +kernel, rfl, by decide +kernel, by decide +kernel⟩
abbrev s_law_take : Stmt := (top 24)
theorem sc_law_take : FnScope ["_law_bag", "_law_many", "_law_digit"] ["_law_bag", "_law_many"] (defScope s_law_take) := ⟨rfl, rfl, rfl, by decide +kernel, rfl, by decide +kernel, by decide +kernel⟩
abbrev s_law_of : Stmt := (top 25)
theorem sc_law_of : FnScope ["_law_bag", "_law_some"] ["_law_bag", "_law_some"] (defScope s_law_of) := ⟨rfl, rfl, rfl, by decide +kernel, rfl, by decide +kernel, by decide +kernel⟩
abbrev s_law_value : Stmt := (top 26)
theorem sc_law_value : FnScope ["_law_bag", "_law_number"] ["_law_bag"] (defScope s_law_value) := ⟨rfl, rfl, rfl, by decide +kernel, rfl, by decide +kernel, by decide +kernel⟩
abbrev s_law_made : Stmt := (top 28)
theorem sc_law_made : FnScope ["_law_thing", "_law_found"] ["_law_thing"] (defScope s_law_made) := ⟨rfl, rfl, rfl, by decide +kernel, rfl, by decide +kernel, by decide +kernel⟩
abbrev s_law_kinds : Stmt := (top 27)
theorem sc_law_kinds : FnScope ["_law_one", "_law_found", "_law_k", "_law_is_so"] ["_law_one"] (defScope s_law_kinds) := ⟨rfl, rfl, rfl, by decide +kernel, rfl, by decide +kernel, by decide +kernel⟩
abbrev s_law_fields : Stmt := (top 29)
theorem sc_law_fields : FnScope ["_law_found", "_law_told"] ["_law_found"] (defScope s_law_fields) := ⟨rfl, rfl, rfl, by decide +kernel, rfl, by decide +kernel, by decide +kernel⟩
abbrev s_law : Stmt := (top 30)
theorem sc_law : FnScope ["_law_script", "_law_at", "_law_bag", "_law_thing", "_law_found", "_law_each", "_law_k", "_law_one", "_law_raised", "e"] ["_law_script"] (defScope s_law) := ⟨rfl, rfl, rfl, by decide +kernel, rfl, by decide +kernel, by decide +kernel⟩
abbrev s_BadSum___init__ : Stmt := (inClass (top 2) 0)
theorem sc_BadSum___init__ : FnScope ["self", "at"] ["self", "at"] (defScope s_BadSum___init__) := ⟨rfl, rfl, rfl, by decide +kernel, rfl, by decide +kernel, by decide +kernel⟩
abbrev s_BadCondition___init__ : Stmt := (inClass (top 3) 0)
theorem sc_BadCondition___init__ : FnScope ["self", "at"] ["self", "at"] (defScope s_BadCondition___init__) := ⟨rfl, rfl, rfl, by decide +kernel, rfl, by decide +kernel, by decide +kernel⟩
abbrev s_BadProgram___init__ : Stmt := (inClass (top 4) 0)
theorem sc_BadProgram___init__ : FnScope ["self", "at"] ["self", "at"] (defScope s_BadProgram___init__) := ⟨rfl, rfl, rfl, by decide +kernel, rfl, by decide +kernel, by decide +kernel⟩
abbrev s_BadMoment___init__ : Stmt := (inClass (top 5) 0)
theorem sc_BadMoment___init__ : FnScope ["self", "moment"] ["self", "moment"] (defScope s_BadMoment___init__) := ⟨rfl, rfl, rfl, by decide +kernel, rfl, by decide +kernel, by decide +kernel⟩
abbrev s_BadArgument___init__ : Stmt := (inClass (top 6) 0)
theorem sc_BadArgument___init__ : FnScope ["self", "argument"] ["self", "argument"] (defScope s_BadArgument___init__) := ⟨rfl, rfl, rfl, by decide +kernel, rfl, by decide +kernel, by decide +kernel⟩
abbrev s_BadAnswer___init__ : Stmt := (inClass (top 7) 0)
theorem sc_BadAnswer___init__ : FnScope ["self", "answer"] ["self", "answer"] (defScope s_BadAnswer___init__) := ⟨rfl, rfl, rfl, by decide +kernel, rfl, by decide +kernel, by decide +kernel⟩
abbrev s_Unlike___init__ : Stmt := (inClass (top 8) 0)
theorem sc_Unlike___init__ : FnScope ["self", "what"] ["self", "what"] (defScope s_Unlike___init__) := ⟨rfl, rfl, rfl, by decide +kernel, rfl, by decide +kernel, by decide +kernel⟩
abbrev s_BadWorld___init__ : Stmt := (inClass (top 9) 0)
theorem sc_BadWorld___init__ : FnScope ["self", "thing"] ["self", "thing"] (defScope s_BadWorld___init__) := ⟨rfl, rfl, rfl, by decide +kernel, rfl, by decide +kernel, by decide +kernel⟩
abbrev s_BadMove___init__ : Stmt := (inClass (top 10) 0)
theorem sc_BadMove___init__ : FnScope ["self", "at"] ["self", "at"] (defScope s_BadMove___init__) := ⟨rfl, rfl, rfl, by decide +kernel, rfl, by decide +kernel, by decide +kernel⟩
abbrev s_BadSchedule___init__ : Stmt := (inClass (top 11) 0)
theorem sc_BadSchedule___init__ : FnScope ["self", "at"] ["self", "at"] (defScope s_BadSchedule___init__) := ⟨rfl, rfl, rfl, by decide +kernel, rfl, by decide +kernel, by decide +kernel⟩
abbrev s_BadLine___init__ : Stmt := (inClass (top 12) 0)
theorem sc_BadLine___init__ : FnScope ["self", "at"] ["self", "at"] (defScope s_BadLine___init__) := ⟨rfl, rfl, rfl, by decide +kernel, rfl, by decide +kernel, by decide +kernel⟩
abbrev s_BadReport___init__ : Stmt := (inClass (top 13) 0)
theorem sc_BadReport___init__ : FnScope ["self", "at"] ["self", "at"] (defScope s_BadReport___init__) := ⟨rfl, rfl, rfl, by decide +kernel, rfl, by decide +kernel, by decide +kernel⟩
abbrev s_TooMany___init__ : Stmt := (inClass (top 14) 0)
theorem sc_TooMany___init__ : FnScope ["self", "what"] ["self", "what"] (defScope s_TooMany___init__) := ⟨rfl, rfl, rfl, by decide +kernel, rfl, by decide +kernel, by decide +kernel⟩
abbrev s_UnknownRequest___init__ : Stmt := (inClass (top 15) 0)
theorem sc_UnknownRequest___init__ : FnScope ["self", "name"] ["self", "name"] (defScope s_UnknownRequest___init__) := ⟨rfl, rfl, rfl, by decide +kernel, rfl, by decide +kernel, by decide +kernel⟩
abbrev s_UnknownEvent___init__ : Stmt := (inClass (top 16) 0)
theorem sc_UnknownEvent___init__ : FnScope ["self", "name"] ["self", "name"] (defScope s_UnknownEvent___init__) := ⟨rfl, rfl, rfl, by decide +kernel, rfl, by decide +kernel, by decide +kernel⟩
abbrev s_UnknownState___init__ : Stmt := (inClass (top 17) 0)
theorem sc_UnknownState___init__ : FnScope ["self", "state"] ["self", "state"] (defScope s_UnknownState___init__) := ⟨rfl, rfl, rfl, by decide +kernel, rfl, by decide +kernel, by decide +kernel⟩
abbrev s_NoReport___init__ : Stmt := (inClass (top 18) 0)
theorem sc_NoReport___init__ : FnScope ["self", "at"] ["self", "at"] (defScope s_NoReport___init__) := ⟨rfl, rfl, rfl, by decide +kernel, rfl, by decide +kernel, by decide +kernel⟩
abbrev s_NotMovable___init__ : Stmt := (inClass (top 19) 0)
theorem sc_NotMovable___init__ : FnScope ["self", "at"] ["self", "at"] (defScope s_NotMovable___init__) := ⟨rfl, rfl, rfl, by decide +kernel, rfl, by decide +kernel, by decide +kernel⟩
abbrev s_NotIdle___init__ : Stmt := (inClass (top 20) 0)
theorem sc_NotIdle___init__ : FnScope ["self", "what"] ["self", "what"] (defScope s_NotIdle___init__) := ⟨rfl, rfl, rfl, by decide +kernel, rfl, by decide +kernel, by decide +kernel⟩
abbrev s_ScopeOver___init__ : Stmt := (inClass (top 21) 0)
theorem sc_ScopeOver___init__ : FnScope ["self", "what"] ["self", "what"] (defScope s_ScopeOver___init__) := ⟨rfl, rfl, rfl, by decide +kernel, rfl, by decide +kernel, by decide +kernel⟩
def fxs : List Fx := [.fa (.glo "BadAnswer"),
  .fa (.glo "BadArgument"),
  .fa (.glo "BadCondition"),
  .fa (.glo "BadLine"),
  .fa (.glo "BadMoment"),
  .fa (.glo "BadMove"),
  .fa (.glo "BadProgram"),
  .fa (.glo "BadReport"),
  .fa (.glo "BadSchedule"),
  .fa (.glo "BadSum"),
  .fa (.glo "BadWorld"),
  .fa (.free "Exception"),
  .fa (.free "IndexError"),
  .fa (.free "KeyError"),
  .fa (.free "LookupError"),
  .fa (.glo "NoReport"),
  .fa (.glo "NotIdle"),
  .fa (.glo "NotMovable"),
  .fa (.glo "NowlaterError"),
  .fa (.free "RuntimeError"),
  .fa (.glo "ScopeOver"),
  .fa (.glo "TooMany"),
  .fa (.glo "UnknownEvent"),
  .fa (.glo "UnknownRequest"),
  .fa (.glo "UnknownState"),
  .fa (.glo "Unlike"),
  .fa (.free "ValueError"),
  .fa (.glo "_law_fields"),
  .fa (.glo "_law_kinds"),
  .fa (.glo "_law_made"),
  .fa (.glo "_law_of"),
  .fa (.glo "_law_seed"),
  .fa (.glo "_law_take"),
  .fa (.glo "_law_value"),
  .fa (.free "abs"),
  .fa (.free "enumerate"),
  .fa (.free "int"),
  .fa (.free "isinstance"),
  .fa (.free "len"),
  .fa (.free "max"),
  .fa (.free "min"),
  .fa (.free "range"),
  .fa (.free "repr"),
  .oex "BadSum",
  .fnI "BadSum",
  .fa (.noat "BadSum" "at"),
  .oex "BadCondition",
  .fnI "BadCondition",
  .fa (.noat "BadCondition" "at"),
  .oex "BadProgram",
  .fnI "BadProgram",
  .fa (.noat "BadProgram" "at"),
  .oex "BadMoment",
  .fnI "BadMoment",
  .fa (.noat "BadMoment" "moment"),
  .oex "BadArgument",
  .fnI "BadArgument",
  .fa (.noat "BadArgument" "argument"),
  .oex "BadAnswer",
  .fnI "BadAnswer",
  .fa (.noat "BadAnswer" "answer"),
  .oex "Unlike",
  .fnI "Unlike",
  .fa (.noat "Unlike" "what"),
  .oex "BadWorld",
  .fnI "BadWorld",
  .fa (.noat "BadWorld" "thing"),
  .oex "BadMove",
  .fnI "BadMove",
  .fa (.noat "BadMove" "at"),
  .oex "BadSchedule",
  .fnI "BadSchedule",
  .fa (.noat "BadSchedule" "at"),
  .oex "BadLine",
  .fnI "BadLine",
  .fa (.noat "BadLine" "at"),
  .oex "BadReport",
  .fnI "BadReport",
  .fa (.noat "BadReport" "at"),
  .oex "TooMany",
  .fnI "TooMany",
  .fa (.noat "TooMany" "what"),
  .oex "UnknownRequest",
  .fnI "UnknownRequest",
  .fa (.noat "UnknownRequest" "name"),
  .oex "UnknownEvent",
  .fnI "UnknownEvent",
  .fa (.noat "UnknownEvent" "name"),
  .oex "UnknownState",
  .fnI "UnknownState",
  .fa (.noat "UnknownState" "state"),
  .oex "NoReport",
  .fnI "NoReport",
  .fa (.noat "NoReport" "at"),
  .oex "NotMovable",
  .fnI "NotMovable",
  .fa (.noat "NotMovable" "at"),
  .oex "NotIdle",
  .fnI "NotIdle",
  .fa (.noat "NotIdle" "what"),
  .oex "ScopeOver",
  .fnI "ScopeOver",
  .fa (.noat "ScopeOver" "what"),
  .fa (.glo "law"),
  .excC "BadSum",
  .xf "BadSum",
  .excC "BadCondition",
  .xf "BadCondition",
  .excC "BadProgram",
  .xf "BadProgram",
  .excC "BadMoment",
  .xf "BadMoment",
  .excC "BadArgument",
  .xf "BadArgument",
  .excC "BadAnswer",
  .xf "BadAnswer",
  .excC "Unlike",
  .xf "Unlike",
  .excC "BadWorld",
  .xf "BadWorld",
  .excC "BadMove",
  .xf "BadMove",
  .excC "BadSchedule",
  .xf "BadSchedule",
  .excC "BadLine",
  .xf "BadLine",
  .excC "BadReport",
  .xf "BadReport",
  .excC "TooMany",
  .xf "TooMany",
  .excC "UnknownRequest",
  .xf "UnknownRequest",
  .excC "UnknownEvent",
  .xf "UnknownEvent",
  .excC "UnknownState",
  .xf "UnknownState",
  .excC "NoReport",
  .xf "NoReport",
  .excC "NotMovable",
  .xf "NotMovable",
  .excC "NotIdle",
  .xf "NotIdle",
  .excC "ScopeOver",
  .xf "ScopeOver",
  .fa (.exm "BadMove" "NowlaterError" true)]
def fys : List Fy := []
def fzs : List Fz := []
def d_BadSum___init__ : He5.DefA := ⟨fun K => He.ma K (He.ga K "BadSum") "__init__", "__init__", "BadSum.__init__", defArgs s_BadSum___init__, defBody s_BadSum___init__, defScope s_BadSum___init__, [], []⟩
def d_BadCondition___init__ : He5.DefA := ⟨fun K => He.ma K (He.ga K "BadCondition") "__init__", "__init__", "BadCondition.__init__", defArgs s_BadCondition___init__, defBody s_BadCondition___init__, defScope s_BadCondition___init__, [], []⟩
def d_BadProgram___init__ : He5.DefA := ⟨fun K => He.ma K (He.ga K "BadProgram") "__init__", "__init__", "BadProgram.__init__", defArgs s_BadProgram___init__, defBody s_BadProgram___init__, defScope s_BadProgram___init__, [], []⟩
def d_BadMoment___init__ : He5.DefA := ⟨fun K => He.ma K (He.ga K "BadMoment") "__init__", "__init__", "BadMoment.__init__", defArgs s_BadMoment___init__, defBody s_BadMoment___init__, defScope s_BadMoment___init__, [], []⟩
def d_BadArgument___init__ : He5.DefA := ⟨fun K => He.ma K (He.ga K "BadArgument") "__init__", "__init__", "BadArgument.__init__", defArgs s_BadArgument___init__, defBody s_BadArgument___init__, defScope s_BadArgument___init__, [], []⟩
def d_BadAnswer___init__ : He5.DefA := ⟨fun K => He.ma K (He.ga K "BadAnswer") "__init__", "__init__", "BadAnswer.__init__", defArgs s_BadAnswer___init__, defBody s_BadAnswer___init__, defScope s_BadAnswer___init__, [], []⟩
def d_Unlike___init__ : He5.DefA := ⟨fun K => He.ma K (He.ga K "Unlike") "__init__", "__init__", "Unlike.__init__", defArgs s_Unlike___init__, defBody s_Unlike___init__, defScope s_Unlike___init__, [], []⟩
def d_BadWorld___init__ : He5.DefA := ⟨fun K => He.ma K (He.ga K "BadWorld") "__init__", "__init__", "BadWorld.__init__", defArgs s_BadWorld___init__, defBody s_BadWorld___init__, defScope s_BadWorld___init__, [], []⟩
def d_BadMove___init__ : He5.DefA := ⟨fun K => He.ma K (He.ga K "BadMove") "__init__", "__init__", "BadMove.__init__", defArgs s_BadMove___init__, defBody s_BadMove___init__, defScope s_BadMove___init__, [], []⟩
def d_BadSchedule___init__ : He5.DefA := ⟨fun K => He.ma K (He.ga K "BadSchedule") "__init__", "__init__", "BadSchedule.__init__", defArgs s_BadSchedule___init__, defBody s_BadSchedule___init__, defScope s_BadSchedule___init__, [], []⟩
def d_BadLine___init__ : He5.DefA := ⟨fun K => He.ma K (He.ga K "BadLine") "__init__", "__init__", "BadLine.__init__", defArgs s_BadLine___init__, defBody s_BadLine___init__, defScope s_BadLine___init__, [], []⟩
def d_BadReport___init__ : He5.DefA := ⟨fun K => He.ma K (He.ga K "BadReport") "__init__", "__init__", "BadReport.__init__", defArgs s_BadReport___init__, defBody s_BadReport___init__, defScope s_BadReport___init__, [], []⟩
def d_TooMany___init__ : He5.DefA := ⟨fun K => He.ma K (He.ga K "TooMany") "__init__", "__init__", "TooMany.__init__", defArgs s_TooMany___init__, defBody s_TooMany___init__, defScope s_TooMany___init__, [], []⟩
def d_UnknownRequest___init__ : He5.DefA := ⟨fun K => He.ma K (He.ga K "UnknownRequest") "__init__", "__init__", "UnknownRequest.__init__", defArgs s_UnknownRequest___init__, defBody s_UnknownRequest___init__, defScope s_UnknownRequest___init__, [], []⟩
def d_UnknownEvent___init__ : He5.DefA := ⟨fun K => He.ma K (He.ga K "UnknownEvent") "__init__", "__init__", "UnknownEvent.__init__", defArgs s_UnknownEvent___init__, defBody s_UnknownEvent___init__, defScope s_UnknownEvent___init__, [], []⟩
def d_UnknownState___init__ : He5.DefA := ⟨fun K => He.ma K (He.ga K "UnknownState") "__init__", "__init__", "UnknownState.__init__", defArgs s_UnknownState___init__, defBody s_UnknownState___init__, defScope s_UnknownState___init__, [], []⟩
def d_NoReport___init__ : He5.DefA := ⟨fun K => He.ma K (He.ga K "NoReport") "__init__", "__init__", "NoReport.__init__", defArgs s_NoReport___init__, defBody s_NoReport___init__, defScope s_NoReport___init__, [], []⟩
def d_NotMovable___init__ : He5.DefA := ⟨fun K => He.ma K (He.ga K "NotMovable") "__init__", "__init__", "NotMovable.__init__", defArgs s_NotMovable___init__, defBody s_NotMovable___init__, defScope s_NotMovable___init__, [], []⟩
def d_NotIdle___init__ : He5.DefA := ⟨fun K => He.ma K (He.ga K "NotIdle") "__init__", "__init__", "NotIdle.__init__", defArgs s_NotIdle___init__, defBody s_NotIdle___init__, defScope s_NotIdle___init__, [], []⟩
def d_ScopeOver___init__ : He5.DefA := ⟨fun K => He.ma K (He.ga K "ScopeOver") "__init__", "__init__", "ScopeOver.__init__", defArgs s_ScopeOver___init__, defBody s_ScopeOver___init__, defScope s_ScopeOver___init__, [], []⟩
def d_law_seed : He5.DefA := ⟨fun K => He.ga K "_law_seed", "_law_seed", "_law_seed", defArgs s_law_seed, defBody s_law_seed, defScope s_law_seed, [], []⟩
def d_law_take : He5.DefA := ⟨fun K => He.ga K "_law_take", "_law_take", "_law_take", defArgs s_law_take, defBody s_law_take, defScope s_law_take, [], []⟩
def d_law_of : He5.DefA := ⟨fun K => He.ga K "_law_of", "_law_of", "_law_of", defArgs s_law_of, defBody s_law_of, defScope s_law_of, [], []⟩
def d_law_value : He5.DefA := ⟨fun K => He.ga K "_law_value", "_law_value", "_law_value", defArgs s_law_value, defBody s_law_value, defScope s_law_value, [], []⟩
def d_law_made : He5.DefA := ⟨fun K => He.ga K "_law_made", "_law_made", "_law_made", defArgs s_law_made, defBody s_law_made, defScope s_law_made, [], []⟩
def d_law_kinds : He5.DefA := ⟨fun K => He.ga K "_law_kinds", "_law_kinds", "_law_kinds", defArgs s_law_kinds, defBody s_law_kinds, defScope s_law_kinds, [], []⟩
def d_law_fields : He5.DefA := ⟨fun K => He.ga K "_law_fields", "_law_fields", "_law_fields", defArgs s_law_fields, defBody s_law_fields, defScope s_law_fields, [], []⟩
def d_law : He5.DefA := ⟨fun K => He.ga K "law", "law", "law", defArgs s_law, defBody s_law, defScope s_law, [], []⟩
def fns : List He5.DefA := [d_BadSum___init__, d_BadCondition___init__, d_BadProgram___init__, d_BadMoment___init__, d_BadArgument___init__, d_BadAnswer___init__, d_Unlike___init__, d_BadWorld___init__, d_BadMove___init__, d_BadSchedule___init__, d_BadLine___init__, d_BadReport___init__, d_TooMany___init__, d_UnknownRequest___init__, d_UnknownEvent___init__, d_UnknownState___init__, d_NoReport___init__, d_NotMovable___init__, d_NotIdle___init__, d_ScopeOver___init__, d_law_seed, d_law_take, d_law_of, d_law_value, d_law_made, d_law_kinds, d_law_fields, d_law]
abbrev RR : PySem.W.OpenRow := PySem.W.OpenLaw.row PySem.Challenge.rw_nowlater_k12_errors_made
def ex (K : PySem.W.Frag) : Bool := (fxB fxs K && (fyB fys K && fzB fzs K)) && (xkB K)
def ad0 : List Addr := [3, 6, 4, 24, 44, 63, 82, 101, 120, 139, 158, 177, 196, 215, 234, 253, 272, 291, 311, 331, 351, 371, 391, 411, 421]
def ad1 : List Addr := [428, 435, 442, 447, 454, 461, 466, 0, 23, 43, 62, 81, 100, 119, 138, 157, 176, 195, 214, 233, 252, 271, 290, 310, 330]
def ad2 : List Addr := [350, 370, 390, 410, 420, 427, 434, 441, 446, 453, 460, 465, 22, 25, 41, 42, 60, 61, 79, 80, 98, 99, 117, 118, 136]
def ad3 : List Addr := [137, 155, 156, 174, 175, 193, 194, 212, 213, 231, 232, 250, 251, 269, 270, 288, 289, 292, 308, 309, 312, 328, 329, 332, 348]
def ad4 : List Addr := [349, 352, 368, 369, 372, 388, 389, 392, 408, 409, 412, 415, 416, 417, 418, 419, 422, 423, 424, 425, 426, 429, 430, 431, 432]
def ad5 : List Addr := [433, 436, 437, 438, 439, 440, 443, 444, 445, 448, 449, 450, 451, 452, 455, 456, 457, 458, 459, 462, 463, 464, 40, 59, 78]
def ad6 : List Addr := [97, 116, 135, 154, 173, 192, 211, 230, 249, 268, 287, 307, 327, 347, 367, 387, 407, 35, 36, 37, 38, 39, 54, 55, 56]
def ad7 : List Addr := [57, 58, 73, 74, 75, 76, 77, 92, 93, 94, 95, 96, 111, 112, 113, 114, 115, 130, 131, 132, 133, 134, 149, 150, 151]
def ad8 : List Addr := [152, 153, 168, 169, 170, 171, 172, 187, 188, 189, 190, 191, 206, 207, 208, 209, 210, 225, 226, 227, 228, 229, 244, 245, 246]
def ad9 : List Addr := [247, 248, 263, 264, 265, 266, 267, 282, 283, 284, 285, 286, 302, 303, 304, 305, 306, 322, 323, 324, 325, 326, 342, 343, 344]
def ad10 : List Addr := [345, 346, 362, 363, 364, 365, 366, 382, 383, 384, 385, 386, 402, 403, 404, 405, 406, 2]
/-- the addresses that the names of the program reach -/
def asL : List Addr := PySem.cStatics :: (ad0 ++ (ad1 ++ (ad2 ++ (ad3 ++ (ad4 ++ (ad5 ++ (ad6 ++ (ad7 ++ (ad8 ++ (ad9 ++ (ad10)))))))))))
def obsL (as : List Addr) (fn : List He5.DefA) (ex : PySem.W.Frag → Bool) (g : Addr → Option Obj) : He.AlD := obsN0 fn ex (He.frT g as)
def hookL (as : List Addr) (fn : List He5.DefA) (ex : PySem.W.Frag → Bool) : PySem.W.Hook where
  α := He.AlD
  obs := fun s => obsL as fn ex s.heap.get?
  val := fun _ => He5.valA fn
  says := fun _ h => ∃ K : PySem.W.Frag, K.In h ∧ SaysN fn ex K
  of := fun _ _ e => ⟨_, He.frT_in, e⟩
  keeps := fun _ _ _ ⟨K, hK, c⟩ k => ⟨K, PySem.W.Frag.In.keeps hK k, c⟩
theorem obsL_eq {as : List Addr} {fn : List He5.DefA} {ex : PySem.W.Frag → Bool} {g : Addr → Option Obj} {s : Shared} (h : ∀ a, g a = s.heap.get? a) : obsL as fn ex g = (hookL as fn ex).obs s := by
  have e : g = s.heap.get? := funext h
  rw [e] <;> rfl
abbrev hk : PySem.W.Hook := hookL asL fns ex
def obH (s : PySem.W.SharedT) : He.AlD := obsL asL fns ex (HandSHeadRun.getT s)
theorem obH_eq (s : PySem.W.SharedT) : obH s = hk.obs s.abs := obsL_eq (HandSHeadRun.getT_eq s)
def loose0 : List PySem.Str := ["NowlaterError", "BadSum", "BadCondition", "BadProgram", "BadMoment", "BadArgument", "BadAnswer", "Unlike", "BadWorld", "BadMove", "BadSchedule", "BadLine", "BadReport", "TooMany", "UnknownRequest", "UnknownEvent", "UnknownState", "NoReport", "NotMovable", "NotIdle"]
def loose1 : List PySem.Str := ["ScopeOver", "_law_seed", "_law_take", "_law_of", "_law_value", "_law_kinds", "_law_made", "_law_fields"]
abbrev loose : List PySem.Str := loose0 ++ loose1
noncomputable abbrev endS (w : World) (os : OsState) : Option PySem.W.SharedT := HandSHeadRun.endF (HandSHeadRun.stepQ (HandSHeadRun.denQ HandSHeadRun.tabQ) RR.prog w) 12000 RR.prog w os
abbrev vwS : PySem.Program := PySem.W.view RR.prog [30]
abbrev frS (s : PySem.W.SharedT) : PySem.W.Frag := He.frT (HandSHeadRun.getT s) asL
theorem run1 (w : World) (os : OsState) : (endS w os).map (fun s => HandSHeadRun.looksF RR.prog (PySem.W.boot_heap w.params) s.abs) = some true := by kernel_rfl
theorem run2 (w : World) (os : OsState) : (endS w os).map (fun s => HandSHeadRun.seenQ vwS loose (PySem.importedModules RR.prog.main.body) (fun s => PySem.W.xlAt vwS [] s && PySem.W.recOk RR.records s) s.abs) = some (PySem.W.openGood vwS loose) := by kernel_rfl
theorem run3 (w : World) (os : OsState) : (endS w os).map (fun s => (fxB fxs (frS s) && (fyB fys (frS s) && fzB fzs (frS s))) && (xkB (frS s))) = some true := by kernel_rfl
theorem run4 (w : World) (os : OsState) : (endS w os).map (fun s => (fns.all fun d => d.ok (frS s), fns.map fun d => He5.fnA (frS s) (d.at_ (frS s)))) = some (true, fns.map He5.DefA.val) := by kernel_rfl
theorem run (w : World) : HandSHeadRun.RunEq RR vwS hk obH 12000 loose w := by
  intro os
  have h1 := run1 w os
  have h2 := run2 w os
  have h3 := run3 w os
  have h4 := run4 w os
  show (endS w os).map (fun s => (HandSHeadRun.looksF RR.prog (PySem.W.boot_heap w.params) s.abs, HandSHeadRun.seenQ vwS loose (PySem.importedModules RR.prog.main.body) (fun s => PySem.W.xlAt vwS [] s && PySem.W.recOk RR.records s) s.abs, obH s)) = some (true, PySem.W.openGood vwS loose, He5.valA fns)
  generalize endS w os = e at h1 h2 h3 h4 ⊢
  cases e with
  | none => cases h1
  | some s =>
    have k1 := Option.some.inj h1
    have k2 := Option.some.inj h2
    have ke : ex (frS s) = true := Option.some.inj h3
    have k4 := Prod.mk.inj (Option.some.inj h4)
    clear h1 h2 h3 h4
    have ko : obH s = He5.valA fns := by
      show (ex (frS s) && fns.all (fun d => d.ok (frS s)), fns.map (fun d => He5.fnA (frS s) (d.at_ (frS s)))) = (true, fns.map He5.DefA.val)
      rw [ke, k4.1, k4.2]; rfl
    exact congrArg some (Prod.ext k1 (Prod.ext k2 ko))
section
open PySem PySem.W PySem.Calls PyProof.Rows
set_option maxHeartbeats 0 in
theorem early (hc : PySem.W.WalkO (view NL.RR.prog [30]) NL.loose (PySem.W.XL (view NL.RR.prog [30]) []) NL.hk.says NL.RR.toRowW (HandSHeadRun.topDef NL.RR.prog 30) [] (fun f vs => PySem.call f vs)) : PySem.Challenge.rw_nowlater_k12_errors_made.Holds := by
  w_on; o_law
  refine HandSHeadRun.head_any (r := NL.RR) (q := view NL.RR.prog [30]) (H := NL.hk) (ob := NL.obH) (M := 12000) (loose := NL.loose) (d := HandSHeadRun.topDef NL.RR.prog 30) (kwd := []) NL.obH_eq
    (by kernel_rfl) (fun s => by kernel_rfl) NL.run (by kernel_rfl) (by kernel_rfl) (by kernel_rfl) (by rfl) (by first | assumption | decide +kernel) (by decide +kernel) ⟨rfl, rfl, rfl, rfl, rfl, by decide +kernel⟩ ?hw ?hc
  case hw => w_witness2
  case hc => exact hc
end

theorem atI_mem {xs : List V} {i : Int} (h0 : 0 ≤ i) (h1 : i < xs.length) : ∃ v ∈ xs, atI xs i = some v := by
  have hl : i.toNat < xs.length := by omega
  refine ⟨xs[i.toNat], List.getElem_mem hl, ?_⟩
  unfold atI ixN
  rw [if_pos h0, if_pos h1, Option.bind_some, List.getElem?_eq_getElem hl]
theorem atI_int {ns : List Int} {i : Int} (h0 : 0 ≤ i) (h1 : i < (ns.map V.int).length) : ∃ n : Int, atI (ns.map V.int) i = some (.int n) := by
  obtain ⟨v, hv, e⟩ := atI_mem h0 h1
  obtain ⟨n, _, rfl⟩ := List.mem_map.mp hv
  exact ⟨n, e⟩
theorem cutV_mem {xs : List V} {lo hi : Option Int} {v : V} (h : v ∈ cutV xs lo hi) : v ∈ xs := List.mem_of_mem_drop (List.mem_of_mem_take h)
theorem log2_small {n : Nat} (h : n < 2 ^ 9000) (h0 : 0 < n) : n.log2 < 9000 := (Nat.log2_lt (by omega)).mpr h

def sp_law_seed (K : PySem.W.Frag) : Sp := fun vs H Q _ => ∃ (a : Addr) (ns : List Int) (n : Int), vs = [.ref a, .int n] ∧ SqL K H a (ns.map V.int) ∧ 0 ≤ n ∧
  ∀ (p : Addr) (H' : Hp), Same H H' → H p = none → Bag H' p → Q (.ref p) H'
def sp_law_take (K : PySem.W.Frag) : Sp := fun vs H Q _ => ∃ (b : Addr) (many : Int), vs = [.ref b, .int many] ∧ Bag H b ∧ 0 < many ∧ many < 2 ^ 200 ∧
  ∀ (d : Int) (H' : Hp), 0 ≤ d → d < many → Sx [b] H H' → Bag H' b → Q (.int d) H'
def sp_law_of (K : PySem.W.Frag) : Sp := fun vs H Q _ => ∃ (b p : Addr) (xs : List V), vs = [.ref b, .ref p] ∧ Bag H b ∧ H p = some (.lst xs) ∧ p ≠ b ∧ 0 < xs.length ∧ xs.length < 2 ^ 60 ∧
  ∀ (v : V) (H' : Hp), v ∈ xs → Sx [b] H H' → Bag H' b → Q v H'

section
variable {K : PySem.W.Frag} {W : List Addr} {H : Hp} {Q : VK} {E : XK} {b p a : Addr}
theorem call_seed {ns : List Int} {n : Int} (hS : SqL K H a (ns.map V.int)) (h0 : 0 ≤ n) (k : ∀ b H', H b = none → Ed [] H H' → Bag H' b → Q (.ref b) H') : sp_law_seed K [.ref a, .int n] H Q E :=
  ⟨a, ns, n, rfl, hS, h0, fun p H' s hp hb => k p H' hp (Ed.same s) hb⟩
theorem call_take {many : Int} (hb : Bag H b) (h1 : 0 < many) (h2 : many < 2 ^ 200) (k : ∀ d H', 0 ≤ d → d < many → Ed [b] H H' → Bag H' b → Q (.int d) H') : sp_law_take K [.ref b, .int many] H Q E :=
  ⟨b, many, rfl, hb, h1, h2, fun d H' d0 d1 s hb' => k d H' d0 d1 (Ed.sx s fun a z => by rw [List.mem_singleton.mp z]; exact hb'.alive) hb'⟩
theorem call_of {ds : List PyData} (hb : Bag H b) (h : Df W H (.ref p) (.list ds)) (hW : b ∈ W) (h1 : 0 < ds.length) (h2 : ds.length < 2 ^ 60) (k : ∀ v d H', d ∈ ds → Ed [b] H H' → Bag H' b → Df W H' v d → Q v H') : sp_law_of K [.ref b, .ref p] H Q E := by
  obtain ⟨xs, n, hp, r⟩ := h.cells
  refine ⟨b, p, xs, rfl, hb, hp, fun z => n (z ▸ hW), by rw [r.length]; exact h1, by rw [r.length]; exact h2, fun v H' hv s hb' => ?_⟩
  obtain ⟨i, hi, e⟩ := List.mem_iff_getElem.mp hv
  obtain ⟨d, e1, e2⟩ := r.at' (i := i) (v := v) (by rw [List.getElem?_eq_getElem hi, e])
  have ee : Ed [b] H H' := Ed.sx s fun a z => by rw [List.mem_singleton.mp z]; exact hb'.alive
  exact k v d H' (List.mem_of_getElem? e1) ee hb' (e2.ed ee (sub1 hW))
theorem call_ofC {ds : List PyData} (hb : Bag H b) (h : Df W H (.ref p) (.list ds)) (hW : b ∈ W) (k : ∀ v d H', d ∈ ds → Ed [b] H H' → Bag H' b → Df W H' v d → Q v H') (h1 : (Nat.ble 1 ds.length && Nat.ble ds.length 1000) = true := by rfl) : sp_law_of K [.ref b, .ref p] H Q E := by
  rw [Bool.and_eq_true] at h1
  have h2 := Nat.le_of_ble_eq_true h1.1
  have h3 := Nat.le_of_ble_eq_true h1.2
  exact call_of hb h hW (by omega) (by omega) k
end
theorem at_map {α β : Type} {l : List α} {f : α → β} {i : Nat} {d : β} (h : (l.map f)[i]? = some d) : ∃ x, l[i]? = some x ∧ d = f x := by
  rw [List.getElem?_map] at h
  cases e : l[i]? with
  | none => rw [e] at h; cases h
  | some x => rw [e] at h; cases h; exact ⟨x, rfl, rfl⟩


def VdD (d : PyData) : Prop := ∃ n : Int, n.natAbs ≤ 10 ^ 30 ∧ d ∈ ([.int n, .none, .str "a", .str "", .list [.int n], .tuple [.int n, .str "b"], .bool true, .int 0] : List PyData)

def sp_law_value (K : PySem.W.Frag) : Sp := fun vs H Q _ => ∃ (W : List Addr) (b : Addr), vs = [.ref b] ∧ Bag H b ∧ b ∈ W ∧ Wl W H ∧ ∀ v d H', VdD d → Ed [b] H H' → Bag H' b → Df W H' v d → Q v H'
def sp_law_made (K : PySem.W.Frag) : Sp := fun vs H Q _ => ∃ v : V, vs = [v] ∧ ∀ (p : Addr) (as : List Addr) H', Ed [] H H' → H' p = some (.lst (as.map V.ref)) → as.length = 20 → Exs K xcl xfl H' as v → Q (.ref p) H'

theorem Ed.new2 {H H1 : Hp} {p : Addr} {o : HO} (hp : H p = none) (h1 : Ed [] H H1) : Ed [] H (upd H1 p o) := ⟨fun a u m z => by rw [upd_ne (ne_of_none z hp)]; exact h1.1 a u m z, fun a h => by
  by_cases q : a = p
  · rw [q, upd_same]; exact fun z => nomatch z
  · rw [upd_ne q]; exact h1.2 a h⟩
theorem kc_at {K : PySem.W.Frag} {mg : Str → Option Value} (T : Txt K mg) : ∀ {i : Nat}, i < 20 → ExcC K (He.ga K (xcl i))
  | 0, _ => T.kc_BadSum
  | 1, _ => T.kc_BadCondition
  | 2, _ => T.kc_BadProgram
  | 3, _ => T.kc_BadMoment
  | 4, _ => T.kc_BadArgument
  | 5, _ => T.kc_BadAnswer
  | 6, _ => T.kc_Unlike
  | 7, _ => T.kc_BadWorld
  | 8, _ => T.kc_BadMove
  | 9, _ => T.kc_BadSchedule
  | 10, _ => T.kc_BadLine
  | 11, _ => T.kc_BadReport
  | 12, _ => T.kc_TooMany
  | 13, _ => T.kc_UnknownRequest
  | 14, _ => T.kc_UnknownEvent
  | 15, _ => T.kc_UnknownState
  | 16, _ => T.kc_NoReport
  | 17, _ => T.kc_NotMovable
  | 18, _ => T.kc_NotIdle
  | 19, _ => T.kc_ScopeOver
  | n + 20, h => absurd h (by omega)
theorem xf_at {K : PySem.W.Frag} {mg : Str → Option Value} (T : Txt K mg) : ∀ {i : Nat}, i < 20 → XfC K (He.ga K (xcl i)) ∧ PySem.W.findIn K (.ref (He.ga K (xcl i))) (xfl i) = some none
  | 0, _ => ⟨T.xf_BadSum, T.xn_BadSum⟩
  | 1, _ => ⟨T.xf_BadCondition, T.xn_BadCondition⟩
  | 2, _ => ⟨T.xf_BadProgram, T.xn_BadProgram⟩
  | 3, _ => ⟨T.xf_BadMoment, T.xn_BadMoment⟩
  | 4, _ => ⟨T.xf_BadArgument, T.xn_BadArgument⟩
  | 5, _ => ⟨T.xf_BadAnswer, T.xn_BadAnswer⟩
  | 6, _ => ⟨T.xf_Unlike, T.xn_Unlike⟩
  | 7, _ => ⟨T.xf_BadWorld, T.xn_BadWorld⟩
  | 8, _ => ⟨T.xf_BadMove, T.xn_BadMove⟩
  | 9, _ => ⟨T.xf_BadSchedule, T.xn_BadSchedule⟩
  | 10, _ => ⟨T.xf_BadLine, T.xn_BadLine⟩
  | 11, _ => ⟨T.xf_BadReport, T.xn_BadReport⟩
  | 12, _ => ⟨T.xf_TooMany, T.xn_TooMany⟩
  | 13, _ => ⟨T.xf_UnknownRequest, T.xn_UnknownRequest⟩
  | 14, _ => ⟨T.xf_UnknownEvent, T.xn_UnknownEvent⟩
  | 15, _ => ⟨T.xf_UnknownState, T.xn_UnknownState⟩
  | 16, _ => ⟨T.xf_NoReport, T.xn_NoReport⟩
  | 17, _ => ⟨T.xf_NotMovable, T.xn_NotMovable⟩
  | 18, _ => ⟨T.xf_NotIdle, T.xn_NotIdle⟩
  | 19, _ => ⟨T.xf_ScopeOver, T.xn_ScopeOver⟩
  | n + 20, h => absurd h (by omega)
theorem g_isJ {K : PySem.W.Frag} {mg : Str → Option Value} (T : Txt K mg) {i : Nat} (hi : i < 20) {a C : Addr} {v : V} {H : Hp} {Q : VK} (hx : ExV H a (He.ga K (xcl i)) (xfl i) v) (j : Nat) (hj : j < 20) (hC : C = He.ga K (xcl j)) (h : Q (.bl (decide (i = j))) H) : dIsV K [.ref a, .ref C] H Q :=
  ⟨a, _, _, v, _, _, _, rfl, hx, kc_at T hi, .own _, by rw [hC]; exact (xk_at T.xk hi).1 j hj, h⟩
theorem g_fj {K : PySem.W.Frag} {mg : Str → Option Value} (T : Txt K mg) {p : Addr} {as : List Addr} {v : V} {H : Hp} {Q : VK} {f : Str} (hp : H p = some (.lst (as.map V.ref))) (hl : as.length = 20) (hE : Exs K xcl xfl H as v) (j : Nat) (hj : j < 20) (hf : f = xfl j) (h : Q v H) :
    dIx K (.ref p) (.int j) H fun x H1 => ∃ a C v, x = .ref a ∧ ExV H1 a C f v ∧ XfC K C ∧ PySem.W.findIn K (.ref C) f = some none ∧ Q v H1 := by
  have hj' : j < as.length := by rw [hl]; exact hj
  refine g_ix_l (v := .ref as[j]) (.inl (SqL.of hp)) ?_ ⟨as[j], _, v, rfl, ?_, (xf_at T hj).1, ?_, h⟩
  · exact atI_map (List.getElem?_eq_getElem hj')
  · rw [hf]; exact hE j _ (List.getElem?_eq_getElem hj')
  · rw [hf]; exact (xf_at T hj).2

def sp_law_kinds (K : PySem.W.Frag) : Sp := fun vs H Q _ => ∃ (W : List Addr) (a : Addr) (i : Nat) (v : V), vs = [.ref a] ∧ i < 20 ∧ ExV H a (He.ga K (xcl i)) (xfl i) v ∧ Wl W H ∧ ∀ p H', Ed [] H H' → Df W H' (.ref p) (.list [.int (i : Nat)]) → Q (.ref p) H'
def sp_law_fields (K : PySem.W.Frag) : Sp := fun vs H Q _ => ∃ (W : List Addr) (p : Addr) (as : List Addr) (v : V) (d : PyData), vs = [.ref p] ∧ H p = some (.lst (as.map V.ref)) ∧ as.length = 20 ∧ Exs K xcl xfl H as v ∧ Df W H v d ∧ Wl W H ∧ ∀ q H', Ed [] H H' → Df W H' (.ref q) (.list (List.replicate 20 d)) → Q (.ref q) H'

section
open NQ
def iS (i : Int) : Str := (toString i : String)
def dgL (m : Nat) : List Nat := (Nat.toDigits 10 m).map Char.toNat
theorem is_nat {m : Nat} : (iS (m : Nat)).cps.toList = dgL m := PySem.W.KIN.signs_num m
theorem is_neg {m : Nat} (h : 0 < m) : (iS (-(m : Nat))).cps.toList = 45 :: dgL m := by
  obtain ⟨k, rfl⟩ : ∃ k, m = k + 1 := ⟨m - 1, by omega⟩
  have e : (-((k + 1 : Nat) : Int)) = Int.negSucc k := rfl
  rw [e]
  have e2 : toString (Int.negSucc k) = "-" ++ toString ((k + 1 : Nat) : Int) := rfl
  unfold iS
  rw [e2, Str.ofString_eq_toList, String.toList_append, List.map_append]
  have e3 : (iS ((k + 1 : Nat) : Int)).cps.toList = dgL (k + 1) := is_nat
  unfold iS at e3
  rw [Str.ofString_eq_toList] at e3
  have e3 : List.map Char.toNat (toString ((k + 1 : Nat) : Int)).toList = dgL (k + 1) := e3
  show List.map Char.toNat "-".toList ++ List.map Char.toNat (toString ((k + 1 : Nat) : Int)).toList = 45 :: dgL (k + 1)
  rw [e3]
  rfl
theorem dgL_len {m k : Nat} (hk : 0 < k) : (dgL m).length ≤ k ↔ m < 10 ^ k := by
  unfold dgL
  rw [List.length_map]
  exact Nat.length_toDigits_le_iff (by decide) hk
theorem ts_len {i : Int} (h : i.natAbs ≤ 10 ^ 30) : (toString i : Str).length ≤ 40 := by
  have e : (iS i).cps.toList.length = (toString i : Str).length := Array.length_toList
  rw [← e]
  have hd : ∀ m : Nat, m ≤ 10 ^ 30 → (dgL m).length ≤ 31 := fun m hm => (dgL_len (by decide)).mpr (Nat.lt_of_le_of_lt hm (by decide))
  rcases Int.natAbs_eq i with q | q
  · rw [q, is_nat]
    exact Nat.le_trans (hd _ h) (by decide)
  · by_cases z : i.natAbs = 0
    · rw [q, z]; decide +kernel
    · rw [q, is_neg (by omega)]
      have := hd _ h
      simp only [List.length_cons]
      omega
theorem vd_int {n w : Nat} {i : Int} (h : i.natAbs ≤ 10 ^ 30) (hw : 100 ≤ w) : RpD n w (.int i) := by
  have hl : i.natAbs.log2 < 100 := by
    by_cases z : i.natAbs = 0
    · rw [z]; decide
    · exact (Nat.log2_lt z).mpr (Nat.lt_of_le_of_lt h (by decide))
  have hs : (toString i : Str).length ≤ 40 := ts_len h
  exact .int hl hs (by omega)
theorem vd_rp {d : PyData} (h : VdD d) : RpD 1 400 d ∧ noD d = true := by
  obtain ⟨n, hn, hd⟩ := h
  have h1 : RpD 0 100 (.int n) := vd_int hn (Nat.le_refl _)
  have ha : ∀ w, 1 ≤ w → RpD 0 w (.str "a") := fun w h => .str (by decide +kernel) h
  have hb : RpD 0 100 (.str "b") := .str (by decide +kernel) (by decide)
  simp only [List.mem_cons, List.not_mem_nil, or_false] at hd
  rcases hd with rfl | rfl | rfl | rfl | rfl | rfl | rfl | rfl
  · exact ⟨vd_int hn (by decide), by simp [noD]⟩
  · exact ⟨.none, by simp [noD]⟩
  · exact ⟨.str (by decide +kernel) (by decide), by simp [noD]⟩
  · exact ⟨.str (by decide +kernel) (by decide), by simp [noD]⟩
  · exact ⟨.list (n := 0) (w := 100) (fun d hd => by rw [List.mem_singleton.mp hd]; exact h1) (by rw [List.length_singleton]; decide), by simp [noD, noDs]⟩
  · exact ⟨.tuple (n := 0) (w := 100) (fun d hd => by
      simp only [List.mem_cons, List.not_mem_nil, or_false] at hd
      rcases hd with rfl | rfl
      · exact h1
      · exact hb) (Nat.le_of_ble_eq_true rfl), by simp [noD, noDs]⟩
  · exact ⟨.bool, by simp [noD]⟩
  · exact ⟨vd_int (by decide) (by decide), by simp [noD]⟩
theorem g_chI {σ : L2.St} {H : Hp} {Q : VK} {n : Nat} {x : Int} (hx : ∀ R : VK, R (.int x) H → tVar n σ H R) (h : Q (.bl (decide (13 ≤ x) && decide (x < 18))) H) : tChain dLe dLt (tC (.int 13)) (tVar n) (tC (.int 18)) σ H Q := by
  unfold tChain tC
  refine hx _ ?_
  refine ⟨_, rfl, ?_⟩
  by_cases q : (13 : Int) ≤ x
  · rw [decide_eq_true q, Bool.true_and] at h
    rw [if_pos (decide_eq_true q)]
    exact h
  · rw [decide_eq_false q, Bool.false_and] at h
    rw [if_neg (by rw [decide_eq_true_eq]; exact q)]
    exact h
theorem ne_no {b c : Bool} (h : b = c) : ¬ ((!decide (b = c)) = true) := by subst h; simp
theorem vd_len {d : PyData} (h : RpD 1 400 d) : d.shown.length ≤ sizeLine := by
  have h1 := PyData.shown_le 40 (by decide) d h.lv
  have h2 := Nat.mul_le_mul_left (40 + 2) h.wt
  rw [sizeLine_eq]
  omega
end

def sp_law (K : PySem.W.Frag) : Sp := fun vs H Q _ => ∃ (a : Addr) (ns : List Int), vs = [.ref a] ∧ SqL K H a (ns.map V.int) ∧ ns.length ≤ 63 ∧ (∀ z ∈ ns, Builtin.Int.intBits z ≤ 1048576) ∧ ∀ H', Q (.bl true) H'
section
variable {P : Program} {w : World} {K : PySem.W.Frag} {mg : Str → Option Value} {base : Heap}
theorem ok_BadSum___init__ {f : Addr} {fd : FuncData} (F : FnP K "__init__" "BadSum.__init__" s_BadSum___init__ f fd) (o : OexG K (He.ga K "BadSum")) (no : PySem.W.findIn K (.ref (He.ga K "BadSum")) "at" = some none) : FnOk P w K mg base (L2.CX P w) 1 f fd ["self", "at"] (sp_xi (He.ga K "BadSum") "at") := by
  refine F.ok sc_BadSum___init__ (fun vs H Q E h => ?_) (fun cdv A outer s H vs Q E hr h => ?_)
  · obtain ⟨a, v, rfl, _⟩ := h
    rfl
  · obtain ⟨a, v, rfl, ha, k⟩ := h
    exact ⟨_, pss_one (ps_of (pv 0) (pv 1)), _, rfl, _, rfl, a, _, rfl, o, no, ha, fun dx h1 h2 => k dx h1 h2⟩
end
section
variable {P : Program} {w : World} {K : PySem.W.Frag} {mg : Str → Option Value} {base : Heap}
theorem ok_BadCondition___init__ {f : Addr} {fd : FuncData} (F : FnP K "__init__" "BadCondition.__init__" s_BadCondition___init__ f fd) (o : OexG K (He.ga K "BadCondition")) (no : PySem.W.findIn K (.ref (He.ga K "BadCondition")) "at" = some none) : FnOk P w K mg base (L2.CX P w) 1 f fd ["self", "at"] (sp_xi (He.ga K "BadCondition") "at") := by
  refine F.ok sc_BadCondition___init__ (fun vs H Q E h => ?_) (fun cdv A outer s H vs Q E hr h => ?_)
  · obtain ⟨a, v, rfl, _⟩ := h
    rfl
  · obtain ⟨a, v, rfl, ha, k⟩ := h
    exact ⟨_, pss_one (ps_of (pv 0) (pv 1)), _, rfl, _, rfl, a, _, rfl, o, no, ha, fun dx h1 h2 => k dx h1 h2⟩
end
section
variable {P : Program} {w : World} {K : PySem.W.Frag} {mg : Str → Option Value} {base : Heap}
theorem ok_BadProgram___init__ {f : Addr} {fd : FuncData} (F : FnP K "__init__" "BadProgram.__init__" s_BadProgram___init__ f fd) (o : OexG K (He.ga K "BadProgram")) (no : PySem.W.findIn K (.ref (He.ga K "BadProgram")) "at" = some none) : FnOk P w K mg base (L2.CX P w) 1 f fd ["self", "at"] (sp_xi (He.ga K "BadProgram") "at") := by
  refine F.ok sc_BadProgram___init__ (fun vs H Q E h => ?_) (fun cdv A outer s H vs Q E hr h => ?_)
  · obtain ⟨a, v, rfl, _⟩ := h
    rfl
  · obtain ⟨a, v, rfl, ha, k⟩ := h
    exact ⟨_, pss_one (ps_of (pv 0) (pv 1)), _, rfl, _, rfl, a, _, rfl, o, no, ha, fun dx h1 h2 => k dx h1 h2⟩
end
section
variable {P : Program} {w : World} {K : PySem.W.Frag} {mg : Str → Option Value} {base : Heap}
theorem ok_BadMoment___init__ {f : Addr} {fd : FuncData} (F : FnP K "__init__" "BadMoment.__init__" s_BadMoment___init__ f fd) (o : OexG K (He.ga K "BadMoment")) (no : PySem.W.findIn K (.ref (He.ga K "BadMoment")) "moment" = some none) : FnOk P w K mg base (L2.CX P w) 1 f fd ["self", "moment"] (sp_xi (He.ga K "BadMoment") "moment") := by
  refine F.ok sc_BadMoment___init__ (fun vs H Q E h => ?_) (fun cdv A outer s H vs Q E hr h => ?_)
  · obtain ⟨a, v, rfl, _⟩ := h
    rfl
  · obtain ⟨a, v, rfl, ha, k⟩ := h
    exact ⟨_, pss_one (ps_of (pv 0) (pv 1)), _, rfl, _, rfl, a, _, rfl, o, no, ha, fun dx h1 h2 => k dx h1 h2⟩
end
section
variable {P : Program} {w : World} {K : PySem.W.Frag} {mg : Str → Option Value} {base : Heap}
theorem ok_BadArgument___init__ {f : Addr} {fd : FuncData} (F : FnP K "__init__" "BadArgument.__init__" s_BadArgument___init__ f fd) (o : OexG K (He.ga K "BadArgument")) (no : PySem.W.findIn K (.ref (He.ga K "BadArgument")) "argument" = some none) : FnOk P w K mg base (L2.CX P w) 1 f fd ["self", "argument"] (sp_xi (He.ga K "BadArgument") "argument") := by
  refine F.ok sc_BadArgument___init__ (fun vs H Q E h => ?_) (fun cdv A outer s H vs Q E hr h => ?_)
  · obtain ⟨a, v, rfl, _⟩ := h
    rfl
  · obtain ⟨a, v, rfl, ha, k⟩ := h
    exact ⟨_, pss_one (ps_of (pv 0) (pv 1)), _, rfl, _, rfl, a, _, rfl, o, no, ha, fun dx h1 h2 => k dx h1 h2⟩
end
section
variable {P : Program} {w : World} {K : PySem.W.Frag} {mg : Str → Option Value} {base : Heap}
theorem ok_BadAnswer___init__ {f : Addr} {fd : FuncData} (F : FnP K "__init__" "BadAnswer.__init__" s_BadAnswer___init__ f fd) (o : OexG K (He.ga K "BadAnswer")) (no : PySem.W.findIn K (.ref (He.ga K "BadAnswer")) "answer" = some none) : FnOk P w K mg base (L2.CX P w) 1 f fd ["self", "answer"] (sp_xi (He.ga K "BadAnswer") "answer") := by
  refine F.ok sc_BadAnswer___init__ (fun vs H Q E h => ?_) (fun cdv A outer s H vs Q E hr h => ?_)
  · obtain ⟨a, v, rfl, _⟩ := h
    rfl
  · obtain ⟨a, v, rfl, ha, k⟩ := h
    exact ⟨_, pss_one (ps_of (pv 0) (pv 1)), _, rfl, _, rfl, a, _, rfl, o, no, ha, fun dx h1 h2 => k dx h1 h2⟩
end
section
variable {P : Program} {w : World} {K : PySem.W.Frag} {mg : Str → Option Value} {base : Heap}
theorem ok_Unlike___init__ {f : Addr} {fd : FuncData} (F : FnP K "__init__" "Unlike.__init__" s_Unlike___init__ f fd) (o : OexG K (He.ga K "Unlike")) (no : PySem.W.findIn K (.ref (He.ga K "Unlike")) "what" = some none) : FnOk P w K mg base (L2.CX P w) 1 f fd ["self", "what"] (sp_xi (He.ga K "Unlike") "what") := by
  refine F.ok sc_Unlike___init__ (fun vs H Q E h => ?_) (fun cdv A outer s H vs Q E hr h => ?_)
  · obtain ⟨a, v, rfl, _⟩ := h
    rfl
  · obtain ⟨a, v, rfl, ha, k⟩ := h
    exact ⟨_, pss_one (ps_of (pv 0) (pv 1)), _, rfl, _, rfl, a, _, rfl, o, no, ha, fun dx h1 h2 => k dx h1 h2⟩
end
section
variable {P : Program} {w : World} {K : PySem.W.Frag} {mg : Str → Option Value} {base : Heap}
theorem ok_BadWorld___init__ {f : Addr} {fd : FuncData} (F : FnP K "__init__" "BadWorld.__init__" s_BadWorld___init__ f fd) (o : OexG K (He.ga K "BadWorld")) (no : PySem.W.findIn K (.ref (He.ga K "BadWorld")) "thing" = some none) : FnOk P w K mg base (L2.CX P w) 1 f fd ["self", "thing"] (sp_xi (He.ga K "BadWorld") "thing") := by
  refine F.ok sc_BadWorld___init__ (fun vs H Q E h => ?_) (fun cdv A outer s H vs Q E hr h => ?_)
  · obtain ⟨a, v, rfl, _⟩ := h
    rfl
  · obtain ⟨a, v, rfl, ha, k⟩ := h
    exact ⟨_, pss_one (ps_of (pv 0) (pv 1)), _, rfl, _, rfl, a, _, rfl, o, no, ha, fun dx h1 h2 => k dx h1 h2⟩
end
section
variable {P : Program} {w : World} {K : PySem.W.Frag} {mg : Str → Option Value} {base : Heap}
theorem ok_BadMove___init__ {f : Addr} {fd : FuncData} (F : FnP K "__init__" "BadMove.__init__" s_BadMove___init__ f fd) (o : OexG K (He.ga K "BadMove")) (no : PySem.W.findIn K (.ref (He.ga K "BadMove")) "at" = some none) : FnOk P w K mg base (L2.CX P w) 1 f fd ["self", "at"] (sp_xi (He.ga K "BadMove") "at") := by
  refine F.ok sc_BadMove___init__ (fun vs H Q E h => ?_) (fun cdv A outer s H vs Q E hr h => ?_)
  · obtain ⟨a, v, rfl, _⟩ := h
    rfl
  · obtain ⟨a, v, rfl, ha, k⟩ := h
    exact ⟨_, pss_one (ps_of (pv 0) (pv 1)), _, rfl, _, rfl, a, _, rfl, o, no, ha, fun dx h1 h2 => k dx h1 h2⟩
end
section
variable {P : Program} {w : World} {K : PySem.W.Frag} {mg : Str → Option Value} {base : Heap}
theorem ok_BadSchedule___init__ {f : Addr} {fd : FuncData} (F : FnP K "__init__" "BadSchedule.__init__" s_BadSchedule___init__ f fd) (o : OexG K (He.ga K "BadSchedule")) (no : PySem.W.findIn K (.ref (He.ga K "BadSchedule")) "at" = some none) : FnOk P w K mg base (L2.CX P w) 1 f fd ["self", "at"] (sp_xi (He.ga K "BadSchedule") "at") := by
  refine F.ok sc_BadSchedule___init__ (fun vs H Q E h => ?_) (fun cdv A outer s H vs Q E hr h => ?_)
  · obtain ⟨a, v, rfl, _⟩ := h
    rfl
  · obtain ⟨a, v, rfl, ha, k⟩ := h
    exact ⟨_, pss_one (ps_of (pv 0) (pv 1)), _, rfl, _, rfl, a, _, rfl, o, no, ha, fun dx h1 h2 => k dx h1 h2⟩
end
section
variable {P : Program} {w : World} {K : PySem.W.Frag} {mg : Str → Option Value} {base : Heap}
theorem ok_BadLine___init__ {f : Addr} {fd : FuncData} (F : FnP K "__init__" "BadLine.__init__" s_BadLine___init__ f fd) (o : OexG K (He.ga K "BadLine")) (no : PySem.W.findIn K (.ref (He.ga K "BadLine")) "at" = some none) : FnOk P w K mg base (L2.CX P w) 1 f fd ["self", "at"] (sp_xi (He.ga K "BadLine") "at") := by
  refine F.ok sc_BadLine___init__ (fun vs H Q E h => ?_) (fun cdv A outer s H vs Q E hr h => ?_)
  · obtain ⟨a, v, rfl, _⟩ := h
    rfl
  · obtain ⟨a, v, rfl, ha, k⟩ := h
    exact ⟨_, pss_one (ps_of (pv 0) (pv 1)), _, rfl, _, rfl, a, _, rfl, o, no, ha, fun dx h1 h2 => k dx h1 h2⟩
end
section
variable {P : Program} {w : World} {K : PySem.W.Frag} {mg : Str → Option Value} {base : Heap}
theorem ok_BadReport___init__ {f : Addr} {fd : FuncData} (F : FnP K "__init__" "BadReport.__init__" s_BadReport___init__ f fd) (o : OexG K (He.ga K "BadReport")) (no : PySem.W.findIn K (.ref (He.ga K "BadReport")) "at" = some none) : FnOk P w K mg base (L2.CX P w) 1 f fd ["self", "at"] (sp_xi (He.ga K "BadReport") "at") := by
  refine F.ok sc_BadReport___init__ (fun vs H Q E h => ?_) (fun cdv A outer s H vs Q E hr h => ?_)
  · obtain ⟨a, v, rfl, _⟩ := h
    rfl
  · obtain ⟨a, v, rfl, ha, k⟩ := h
    exact ⟨_, pss_one (ps_of (pv 0) (pv 1)), _, rfl, _, rfl, a, _, rfl, o, no, ha, fun dx h1 h2 => k dx h1 h2⟩
end
section
variable {P : Program} {w : World} {K : PySem.W.Frag} {mg : Str → Option Value} {base : Heap}
theorem ok_TooMany___init__ {f : Addr} {fd : FuncData} (F : FnP K "__init__" "TooMany.__init__" s_TooMany___init__ f fd) (o : OexG K (He.ga K "TooMany")) (no : PySem.W.findIn K (.ref (He.ga K "TooMany")) "what" = some none) : FnOk P w K mg base (L2.CX P w) 1 f fd ["self", "what"] (sp_xi (He.ga K "TooMany") "what") := by
  refine F.ok sc_TooMany___init__ (fun vs H Q E h => ?_) (fun cdv A outer s H vs Q E hr h => ?_)
  · obtain ⟨a, v, rfl, _⟩ := h
    rfl
  · obtain ⟨a, v, rfl, ha, k⟩ := h
    exact ⟨_, pss_one (ps_of (pv 0) (pv 1)), _, rfl, _, rfl, a, _, rfl, o, no, ha, fun dx h1 h2 => k dx h1 h2⟩
end
section
variable {P : Program} {w : World} {K : PySem.W.Frag} {mg : Str → Option Value} {base : Heap}
theorem ok_UnknownRequest___init__ {f : Addr} {fd : FuncData} (F : FnP K "__init__" "UnknownRequest.__init__" s_UnknownRequest___init__ f fd) (o : OexG K (He.ga K "UnknownRequest")) (no : PySem.W.findIn K (.ref (He.ga K "UnknownRequest")) "name" = some none) : FnOk P w K mg base (L2.CX P w) 1 f fd ["self", "name"] (sp_xi (He.ga K "UnknownRequest") "name") := by
  refine F.ok sc_UnknownRequest___init__ (fun vs H Q E h => ?_) (fun cdv A outer s H vs Q E hr h => ?_)
  · obtain ⟨a, v, rfl, _⟩ := h
    rfl
  · obtain ⟨a, v, rfl, ha, k⟩ := h
    exact ⟨_, pss_one (ps_of (pv 0) (pv 1)), _, rfl, _, rfl, a, _, rfl, o, no, ha, fun dx h1 h2 => k dx h1 h2⟩
end
section
variable {P : Program} {w : World} {K : PySem.W.Frag} {mg : Str → Option Value} {base : Heap}
theorem ok_UnknownEvent___init__ {f : Addr} {fd : FuncData} (F : FnP K "__init__" "UnknownEvent.__init__" s_UnknownEvent___init__ f fd) (o : OexG K (He.ga K "UnknownEvent")) (no : PySem.W.findIn K (.ref (He.ga K "UnknownEvent")) "name" = some none) : FnOk P w K mg base (L2.CX P w) 1 f fd ["self", "name"] (sp_xi (He.ga K "UnknownEvent") "name") := by
  refine F.ok sc_UnknownEvent___init__ (fun vs H Q E h => ?_) (fun cdv A outer s H vs Q E hr h => ?_)
  · obtain ⟨a, v, rfl, _⟩ := h
    rfl
  · obtain ⟨a, v, rfl, ha, k⟩ := h
    exact ⟨_, pss_one (ps_of (pv 0) (pv 1)), _, rfl, _, rfl, a, _, rfl, o, no, ha, fun dx h1 h2 => k dx h1 h2⟩
end
section
variable {P : Program} {w : World} {K : PySem.W.Frag} {mg : Str → Option Value} {base : Heap}
theorem ok_UnknownState___init__ {f : Addr} {fd : FuncData} (F : FnP K "__init__" "UnknownState.__init__" s_UnknownState___init__ f fd) (o : OexG K (He.ga K "UnknownState")) (no : PySem.W.findIn K (.ref (He.ga K "UnknownState")) "state" = some none) : FnOk P w K mg base (L2.CX P w) 1 f fd ["self", "state"] (sp_xi (He.ga K "UnknownState") "state") := by
  refine F.ok sc_UnknownState___init__ (fun vs H Q E h => ?_) (fun cdv A outer s H vs Q E hr h => ?_)
  · obtain ⟨a, v, rfl, _⟩ := h
    rfl
  · obtain ⟨a, v, rfl, ha, k⟩ := h
    exact ⟨_, pss_one (ps_of (pv 0) (pv 1)), _, rfl, _, rfl, a, _, rfl, o, no, ha, fun dx h1 h2 => k dx h1 h2⟩
end
section
variable {P : Program} {w : World} {K : PySem.W.Frag} {mg : Str → Option Value} {base : Heap}
theorem ok_NoReport___init__ {f : Addr} {fd : FuncData} (F : FnP K "__init__" "NoReport.__init__" s_NoReport___init__ f fd) (o : OexG K (He.ga K "NoReport")) (no : PySem.W.findIn K (.ref (He.ga K "NoReport")) "at" = some none) : FnOk P w K mg base (L2.CX P w) 1 f fd ["self", "at"] (sp_xi (He.ga K "NoReport") "at") := by
  refine F.ok sc_NoReport___init__ (fun vs H Q E h => ?_) (fun cdv A outer s H vs Q E hr h => ?_)
  · obtain ⟨a, v, rfl, _⟩ := h
    rfl
  · obtain ⟨a, v, rfl, ha, k⟩ := h
    exact ⟨_, pss_one (ps_of (pv 0) (pv 1)), _, rfl, _, rfl, a, _, rfl, o, no, ha, fun dx h1 h2 => k dx h1 h2⟩
end
section
variable {P : Program} {w : World} {K : PySem.W.Frag} {mg : Str → Option Value} {base : Heap}
theorem ok_NotMovable___init__ {f : Addr} {fd : FuncData} (F : FnP K "__init__" "NotMovable.__init__" s_NotMovable___init__ f fd) (o : OexG K (He.ga K "NotMovable")) (no : PySem.W.findIn K (.ref (He.ga K "NotMovable")) "at" = some none) : FnOk P w K mg base (L2.CX P w) 1 f fd ["self", "at"] (sp_xi (He.ga K "NotMovable") "at") := by
  refine F.ok sc_NotMovable___init__ (fun vs H Q E h => ?_) (fun cdv A outer s H vs Q E hr h => ?_)
  · obtain ⟨a, v, rfl, _⟩ := h
    rfl
  · obtain ⟨a, v, rfl, ha, k⟩ := h
    exact ⟨_, pss_one (ps_of (pv 0) (pv 1)), _, rfl, _, rfl, a, _, rfl, o, no, ha, fun dx h1 h2 => k dx h1 h2⟩
end
section
variable {P : Program} {w : World} {K : PySem.W.Frag} {mg : Str → Option Value} {base : Heap}
theorem ok_NotIdle___init__ {f : Addr} {fd : FuncData} (F : FnP K "__init__" "NotIdle.__init__" s_NotIdle___init__ f fd) (o : OexG K (He.ga K "NotIdle")) (no : PySem.W.findIn K (.ref (He.ga K "NotIdle")) "what" = some none) : FnOk P w K mg base (L2.CX P w) 1 f fd ["self", "what"] (sp_xi (He.ga K "NotIdle") "what") := by
  refine F.ok sc_NotIdle___init__ (fun vs H Q E h => ?_) (fun cdv A outer s H vs Q E hr h => ?_)
  · obtain ⟨a, v, rfl, _⟩ := h
    rfl
  · obtain ⟨a, v, rfl, ha, k⟩ := h
    exact ⟨_, pss_one (ps_of (pv 0) (pv 1)), _, rfl, _, rfl, a, _, rfl, o, no, ha, fun dx h1 h2 => k dx h1 h2⟩
end
section
variable {P : Program} {w : World} {K : PySem.W.Frag} {mg : Str → Option Value} {base : Heap}
theorem ok_ScopeOver___init__ {f : Addr} {fd : FuncData} (F : FnP K "__init__" "ScopeOver.__init__" s_ScopeOver___init__ f fd) (o : OexG K (He.ga K "ScopeOver")) (no : PySem.W.findIn K (.ref (He.ga K "ScopeOver")) "what" = some none) : FnOk P w K mg base (L2.CX P w) 1 f fd ["self", "what"] (sp_xi (He.ga K "ScopeOver") "what") := by
  refine F.ok sc_ScopeOver___init__ (fun vs H Q E h => ?_) (fun cdv A outer s H vs Q E hr h => ?_)
  · obtain ⟨a, v, rfl, _⟩ := h
    rfl
  · obtain ⟨a, v, rfl, ha, k⟩ := h
    exact ⟨_, pss_one (ps_of (pv 0) (pv 1)), _, rfl, _, rfl, a, _, rfl, o, no, ha, fun dx h1 h2 => k dx h1 h2⟩
end
section
variable {P : Program} {w : World} {K : PySem.W.Frag} {mg : Str → Option Value} {base : Heap}
theorem ok_law_seed {f : Addr} {fd : FuncData} (F : FnP K "_law_seed" "_law_seed" s_law_seed f fd) (T : Txt K mg)   : FnOk P w K mg base (L2.CX P w) 1 f fd ["_law_script", "_law_at"] (sp_law_seed K) := by
  refine F.ok sc_law_seed (fun vs H Q E h => ?_) (fun cdv A outer s H vs Q E hr h => ?_)
  · obtain ⟨a, ns, n, rfl, _⟩ := h
    rfl
  · have nd := sc_law_seed.nd
    have tk := takes_of (E := E) (X := (cxOf (L2.CX P w) P w K mg base ["_law_script", "_law_at", "_law_cell", "_law_mixed", "_law_k", "_law_each"] "_law_seed" (defScope s_law_seed) f cdv A outer s H E)) rfl rfl rfl rfl
    have po : PassesOwn (model P w) (cxOf (L2.CX P w) P w K mg base ["_law_script", "_law_at", "_law_cell", "_law_mixed", "_law_k", "_law_each"] "_law_seed" (defScope s_law_seed) f cdv A outer s H E).A (cxOf (L2.CX P w) P w K mg base ["_law_script", "_law_at", "_law_cell", "_law_mixed", "_law_k", "_law_each"] "_law_seed" (defScope s_law_seed) f cdv A outer s H E).env (cxOf (L2.CX P w) P w K mg base ["_law_script", "_law_at", "_law_cell", "_law_mixed", "_law_k", "_law_each"] "_law_seed" (defScope s_law_seed) f cdv A outer s H E).xe := passes_of (X := (cxOf (L2.CX P w) P w K mg base ["_law_script", "_law_at", "_law_cell", "_law_mixed", "_law_k", "_law_each"] "_law_seed" (defScope s_law_seed) f cdv A outer s H E)) rfl
    obtain ⟨a, ns, n, rfl, hS, h0, k⟩ := h
    refine ⟨_, (pss_cons (q_set 2 nd (pe_ifExp (pt_cmpR op_dLt (pv 1) (pe_callB (cl_len K) (by rfl) T.n_len bt_len (pa_cons (pv 0) pa_nil)) (nomark _)) (pe_ix (ix_dyn K) (pv 0) (pv 1) (fun _ _ => rfl)) pe_int)) (pss_cons (q_set 3 nd (pe_op op_dAdd pe_int (pe_op op_dMul pe_int (pv 1)))) (pss_cons (ps_for po rfl (q_enum K T.n_enumerate (pa_cons (pe_slice (sl_dyn K) (pv 0) po_none (po_some pe_int)) pa_nil)) (q_gtup K 2 (pgs_cons (q_name 4 nd) (pgs_cons (q_name 5 nd) pgs_nil))) (pss_one (q_set 3 nd (pe_op op_dMod (pe_callTy cl_int (by rfl) T.n_int bt_int (pa_cons (pe_op op_dAdd (pe_op op_dAdd (pe_op op_dMul (pv 3) pe_int) (pe_op op_dMod (pe_callTy cl_int (by rfl) T.n_int bt_int (pa_cons (pv 5) pa_nil)) pe_int)) (pe_op op_dMul pe_int (pv 4))) pa_nil)) pe_int)))) (pss_one (ps_ret (pe_lst (pa_cons (pe_ifExp (pt_cmpR op_dGe (pe_callB cl_abs (by rfl) T.n_abs bt_abs (pa_cons (pv 2) pa_nil)) (pe_op op_dPow pe_int pe_int) (nomark _)) (pe_callB cl_abs (by rfl) T.n_abs bt_abs (pa_cons (pv 2) pa_nil)) pe_int) (pa_cons (pv 3) pa_nil)))))))), ?_⟩
    refine g_start (σ' := some _ :: some _ :: none :: none :: none :: none :: []) rfl ?_
    walk_at "go"
    refine' g_all (α := Int) (fun rest => ?main) ?rest
    case main =>
      refine g_iteD (fun hlt => ?_) (fun hlt => ?_)
      · walk_at "go"
        obtain ⟨c, hc⟩ := atI_int h0 hlt
        refine g_ix_l (Or.inl hS) hc ?_
        exact rest c
      · walk_at "go1"
        exact rest 0
    case rest =>
      intro c
      walk_at "go"
      intro l hl
      walk_at "go"
      refine lp_it (walk_enum (xs := cutV (ns.map V.int) none (some 63))) (fun i σ' H' => ∃ (m : Int) (u v : Option V), σ' = [some (.ref a), some (.int n), some (.int c), some (.int m), u, v] ∧ Same H H' ∧ H' l = some (.lst (cutV (ns.map V.int) none (some 63)))) ?_ ?_ ?_ ?_
      · exact ⟨_, none, none, rfl, (Same.refl H).new hl, upd_same⟩
      · rintro i σ' H' _ ⟨m, u, v, rfl, s1, h1⟩
        exact SqL.of h1
      · rintro i x σ' H' H2 hi ⟨m, u, v, rfl, s1, h1⟩ ⟨t, x1, y1, rfl, ht, rfl, e1, e2⟩
        cases e1
        obtain ⟨z, _, rfl⟩ := List.mem_map.mp (cutV_mem (List.mem_of_getElem? e2))
        walk_at "go"
        exact ⟨_, _, _, rfl, s1.new ht, by walk_at "hp"⟩
      · rintro σ' H' ⟨m, u, v, rfl, s1, h1⟩
        walk_at "go"
        refine g_iteD (fun _ => ?_) (fun _ => ?_)
        all_goals
          walk_at "go"
          refine ⟨by show 2 ≤ sizeLine; decide, fun p hp => ?_⟩
          exact k p _ (s1.new hp) (s1.free hp) Bag.at
end
section
variable {P : Program} {w : World} {K : PySem.W.Frag} {mg : Str → Option Value} {base : Heap}
theorem ok_law_take {f : Addr} {fd : FuncData} (F : FnP K "_law_take" "_law_take" s_law_take f fd) (T : Txt K mg)   : FnOk P w K mg base (L2.CX P w) 1 f fd ["_law_bag", "_law_many"] (sp_law_take K) := by
  refine F.ok sc_law_take (fun vs H Q E h => ?_) (fun cdv A outer s H vs Q E hr h => ?_)
  · obtain ⟨b, many, rfl, _⟩ := h
    rfl
  · have nd := sc_law_take.nd
    have tk := takes_of (E := E) (X := (cxOf (L2.CX P w) P w K mg base ["_law_bag", "_law_many", "_law_digit"] "_law_take" (defScope s_law_take) f cdv A outer s H E)) rfl rfl rfl rfl
    have po : PassesOwn (model P w) (cxOf (L2.CX P w) P w K mg base ["_law_bag", "_law_many", "_law_digit"] "_law_take" (defScope s_law_take) f cdv A outer s H E).A (cxOf (L2.CX P w) P w K mg base ["_law_bag", "_law_many", "_law_digit"] "_law_take" (defScope s_law_take) f cdv A outer s H E).env (cxOf (L2.CX P w) P w K mg base ["_law_bag", "_law_many", "_law_digit"] "_law_take" (defScope s_law_take) f cdv A outer s H E).xe := passes_of (X := (cxOf (L2.CX P w) P w K mg base ["_law_bag", "_law_many", "_law_digit"] "_law_take" (defScope s_law_take) f cdv A outer s H E)) rfl
    obtain ⟨b, many, rfl, ⟨x, y, hb⟩, h1, h2, k⟩ := h
    have h3 : many.natAbs.log2 < 9000 := log2_small (Nat.lt_of_lt_of_le (show many.natAbs < 2 ^ 200 by omega) (by decide)) (by omega)
    refine ⟨_, (pss_cons (ps_if (pt_cmpR op_dGt (pe_ix (ix_dyn K) (pv 0) pe_int (fun _ _ => rfl)) pe_int (nomark _)) (pss_cons (q_set 2 nd (pe_op op_dMod (pe_callTy cl_int (by rfl) T.n_int bt_int (pa_cons (pe_ix (ix_dyn K) (pv 0) pe_int (fun _ _ => rfl)) pa_nil)) (pv 1))) (pss_cons (ps_asg (pe_op op_dDiv (pe_ix (ix_dyn K) (pv 0) pe_int (fun _ _ => rfl)) (pv 1)) (pg_sub (pv 0) pe_int set_list)) (pss_one (ps_ret (pv 2))))) pss_nil) (pss_cons (ps_asg (pe_op op_dMod (pe_callTy cl_int (by rfl) T.n_int bt_int (pa_cons (pe_op op_dAdd (pe_op op_dMul (pe_ix (ix_dyn K) (pv 0) pe_int (fun _ _ => rfl)) pe_int) pe_int) pa_nil)) pe_int) (pg_sub (pv 0) pe_int set_list)) (pss_one (ps_ret (pe_op op_dMod (pe_op op_dDiv (pe_op op_dMod (pe_callTy cl_int (by rfl) T.n_int bt_int (pa_cons (pe_op op_dMul (pe_op op_dDiv (pe_ix (ix_dyn K) (pv 0) pe_int (fun _ _ => rfl)) pe_int) pe_int) pa_nil)) pe_int) pe_int) (pv 1)))))), ?_⟩
    refine g_start (σ' := some _ :: some _ :: none :: []) rfl ?_
    walk_at "go"
    refine g_iteD (fun h => ?_) (fun h => ?_)
    · walk_at "go"
      exact k _ _ (Int.emod_nonneg _ (by omega)) (Int.emod_lt_of_pos _ h1) ((Sx.refl H).put (by simp)) Bag.at
    · walk_at "go"
      exact k _ _ (Int.emod_nonneg _ (by omega)) (Int.emod_lt_of_pos _ h1) ((Sx.refl H).put (by simp)) Bag.at
end
section
variable {P : Program} {w : World} {K : PySem.W.Frag} {mg : Str → Option Value} {base : Heap}
theorem ok_law_of {f : Addr} {fd : FuncData} (F : FnP K "_law_of" "_law_of" s_law_of f fd) (T : Txt K mg) (C_law_take : Cal P w K mg base 1 "_law_take" ["_law_bag", "_law_many"] (sp_law_take K))  : FnOk P w K mg base (L2.CX P w) 2 f fd ["_law_bag", "_law_some"] (sp_law_of K) := by
  refine F.ok sc_law_of (fun vs H Q E h => ?_) (fun cdv A outer s H vs Q E hr h => ?_)
  · obtain ⟨b, p, xs, rfl, _⟩ := h
    rfl
  · have nd := sc_law_of.nd
    have tk := takes_of (E := E) (X := (cxOf (L2.CX P w) P w K mg base ["_law_bag", "_law_some"] "_law_of" (defScope s_law_of) f cdv A outer s H E)) rfl rfl rfl rfl
    have po : PassesOwn (model P w) (cxOf (L2.CX P w) P w K mg base ["_law_bag", "_law_some"] "_law_of" (defScope s_law_of) f cdv A outer s H E).A (cxOf (L2.CX P w) P w K mg base ["_law_bag", "_law_some"] "_law_of" (defScope s_law_of) f cdv A outer s H E).env (cxOf (L2.CX P w) P w K mg base ["_law_bag", "_law_some"] "_law_of" (defScope s_law_of) f cdv A outer s H E).xe := passes_of (X := (cxOf (L2.CX P w) P w K mg base ["_law_bag", "_law_some"] "_law_of" (defScope s_law_of) f cdv A outer s H E)) rfl
    obtain ⟨b, p, xs, rfl, hb, hp, hne, h1, h2, k⟩ := h
    refine ⟨_, (pss_one (ps_ret (pe_ix (ix_dyn K) (pv 1) (q_call C_law_take tk (hr.mono (by decide)) (pa_cons (pv 0) (pa_cons (pe_callB (cl_len K) (by rfl) T.n_len bt_len (pa_cons (pv 1) pa_nil)) pa_nil))) (fun _ _ => rfl)))), ?_⟩
    refine g_start (σ' := some _ :: some _ :: []) rfl ?_
    walk_at "go"
    refine ⟨b, _, rfl, hb, by omega, by omega, fun d H' d0 d1 s1 b1 => ?_⟩
    obtain ⟨v, hv, e⟩ := atI_mem d0 d1
    exact g_ix_l (Or.inl (SqL.of (s1.get1 hne hp))) e (k v H' hv s1 b1)
end
section
variable {P : Program} {w : World} {K : PySem.W.Frag} {mg : Str → Option Value} {base : Heap}
theorem ok_law_value {f : Addr} {fd : FuncData} (F : FnP K "_law_value" "_law_value" s_law_value f fd) (T : Txt K mg) (C_law_of : Cal P w K mg base 2 "_law_of" ["_law_bag", "_law_some"] (sp_law_of K)) (C_law_take : Cal P w K mg base 1 "_law_take" ["_law_bag", "_law_many"] (sp_law_take K))  : FnOk P w K mg base (L2.CX P w) 3 f fd ["_law_bag"] (sp_law_value K) := by
  refine F.ok sc_law_value (fun vs H Q E h => ?_) (fun cdv A outer s H vs Q E hr h => ?_)
  · obtain ⟨W, b, rfl, _⟩ := h
    rfl
  · have nd := sc_law_value.nd
    have tk := takes_of (E := E) (X := (cxOf (L2.CX P w) P w K mg base ["_law_bag", "_law_number"] "_law_value" (defScope s_law_value) f cdv A outer s H E)) rfl rfl rfl rfl
    have po : PassesOwn (model P w) (cxOf (L2.CX P w) P w K mg base ["_law_bag", "_law_number"] "_law_value" (defScope s_law_value) f cdv A outer s H E).A (cxOf (L2.CX P w) P w K mg base ["_law_bag", "_law_number"] "_law_value" (defScope s_law_value) f cdv A outer s H E).env (cxOf (L2.CX P w) P w K mg base ["_law_bag", "_law_number"] "_law_value" (defScope s_law_value) f cdv A outer s H E).xe := passes_of (X := (cxOf (L2.CX P w) P w K mg base ["_law_bag", "_law_number"] "_law_value" (defScope s_law_value) f cdv A outer s H E)) rfl
    obtain ⟨W, b, rfl, hb, hbW, hw, k⟩ := h
    refine ⟨_, (pss_cons (q_set 1 nd (pe_op op_dSub (q_call C_law_take tk (hr.mono (by decide)) (pa_cons (pv 0) (pa_cons (pe_op op_dPow pe_int pe_int) pa_nil))) (q_call C_law_take tk (hr.mono (by decide)) (pa_cons (pv 0) (pa_cons (pe_op op_dPow pe_int pe_int) pa_nil))))) (pss_one (ps_ret (q_call C_law_of tk (hr.mono (by decide)) (pa_cons (pv 0) (pa_cons (pe_lst (pa_cons (pv 1) (pa_cons (pv 1) (pa_cons pe_non (pa_cons pe_str (pa_cons pe_str (pa_cons (pe_lst (pa_cons (pv 1) pa_nil)) (pa_cons (pe_tup (pa_cons (pv 1) (pa_cons pe_str pa_nil))) (pa_cons pe_bl (pa_cons pe_int pa_nil)))))))))) pa_nil)))))), ?_⟩
    refine g_start (σ' := some _ :: none :: []) rfl ?_
    walk_at "go"
    refine call_take hb (by decide) (by decide) fun x H1 x0 x1 e1 hb1 => ?_
    walk_at "go"
    refine call_take hb1 (by decide) (by decide) fun y H2 y0 y1 e2 hb2 => ?_
    have hw2 : Wl W H2 := (hw.ed e1).ed e2
    walk_at "go"
    refine al fun l1 hl1 => ?_
    generalize hH3 : upd H2 l1 _ = H3
    obtain ⟨e3, dl1⟩ := new_l (W := W) hH3 hl1 (by walk_at "dfs") (by walk_at "wl")
    clear hH3
    walk_at "go"
    refine al fun t1 ht1 => ?_
    generalize hH4 : upd H3 t1 _ = H4
    obtain ⟨e4, dt1⟩ := new_t (W := W) hH4 ht1 (by walk_at "dfs") (by walk_at "wl")
    clear hH4
    walk_at "go"
    refine al fun lo hlo => ?_
    generalize hG : upd H4 lo _ = H5
    obtain ⟨e5, dlo⟩ := new_l (W := W) (ds := [.int (x - y), .int (x - y), .none, .str "a", .str "", .list [.int (x - y)], .tuple [.int (x - y), .str "b"], .bool true, .int 0]) hG hlo (by walk_at "dfs") (by walk_at "wl")
    clear hG
    walk_at "go"
    have hb5 : Bag H5 b := by walk_at "bag"
    have e05 : Ed [b] H H5 := by walk_at "ed"
    refine call_ofC (W := W) hb5 dlo hbW fun v dd H6 hd e6 hb6 dv => ?_
    refine k v dd H6 ⟨x - y, ?_, ?_⟩ (e05.tr e6 (edvl subr)) hb6 dv
    · have : x < 10 ^ 30 := x1
      have : y < 10 ^ 30 := y1
      omega
    · simp only [List.mem_cons, List.not_mem_nil, or_false] at hd ⊢
      rcases hd with h | h
      · exact .inl h
      · exact h
end
section
variable {P : Program} {w : World} {K : PySem.W.Frag} {mg : Str → Option Value} {base : Heap}
theorem ok_law_made {f : Addr} {fd : FuncData} (F : FnP K "_law_made" "_law_made" s_law_made f fd) (T : Txt K mg) (X_BadAnswer : XC P w K mg base 1 "BadAnswer" "answer" (He.ga K "BadAnswer")) (X_BadArgument : XC P w K mg base 1 "BadArgument" "argument" (He.ga K "BadArgument")) (X_BadCondition : XC P w K mg base 1 "BadCondition" "at" (He.ga K "BadCondition")) (X_BadLine : XC P w K mg base 1 "BadLine" "at" (He.ga K "BadLine")) (X_BadMoment : XC P w K mg base 1 "BadMoment" "moment" (He.ga K "BadMoment")) (X_BadMove : XC P w K mg base 1 "BadMove" "at" (He.ga K "BadMove")) (X_BadProgram : XC P w K mg base 1 "BadProgram" "at" (He.ga K "BadProgram")) (X_BadReport : XC P w K mg base 1 "BadReport" "at" (He.ga K "BadReport")) (X_BadSchedule : XC P w K mg base 1 "BadSchedule" "at" (He.ga K "BadSchedule")) (X_BadSum : XC P w K mg base 1 "BadSum" "at" (He.ga K "BadSum")) (X_BadWorld : XC P w K mg base 1 "BadWorld" "thing" (He.ga K "BadWorld")) (X_NoReport : XC P w K mg base 1 "NoReport" "at" (He.ga K "NoReport")) (X_NotIdle : XC P w K mg base 1 "NotIdle" "what" (He.ga K "NotIdle")) (X_NotMovable : XC P w K mg base 1 "NotMovable" "at" (He.ga K "NotMovable")) (X_ScopeOver : XC P w K mg base 1 "ScopeOver" "what" (He.ga K "ScopeOver")) (X_TooMany : XC P w K mg base 1 "TooMany" "what" (He.ga K "TooMany")) (X_UnknownEvent : XC P w K mg base 1 "UnknownEvent" "name" (He.ga K "UnknownEvent")) (X_UnknownRequest : XC P w K mg base 1 "UnknownRequest" "name" (He.ga K "UnknownRequest")) (X_UnknownState : XC P w K mg base 1 "UnknownState" "state" (He.ga K "UnknownState")) (X_Unlike : XC P w K mg base 1 "Unlike" "what" (He.ga K "Unlike"))  : FnOk P w K mg base (L2.CX P w) 3 f fd ["_law_thing"] (sp_law_made K) := by
  refine F.ok sc_law_made (fun vs H Q E h => ?_) (fun cdv A outer s H vs Q E hr h => ?_)
  · obtain ⟨v, rfl, _⟩ := h
    rfl
  · have nd := sc_law_made.nd
    have tk := takes_of (E := E) (X := (cxOf (L2.CX P w) P w K mg base ["_law_thing", "_law_found"] "_law_made" (defScope s_law_made) f cdv A outer s H E)) rfl rfl rfl rfl
    have po : PassesOwn (model P w) (cxOf (L2.CX P w) P w K mg base ["_law_thing", "_law_found"] "_law_made" (defScope s_law_made) f cdv A outer s H E).A (cxOf (L2.CX P w) P w K mg base ["_law_thing", "_law_found"] "_law_made" (defScope s_law_made) f cdv A outer s H E).env (cxOf (L2.CX P w) P w K mg base ["_law_thing", "_law_found"] "_law_made" (defScope s_law_made) f cdv A outer s H E).xe := passes_of (X := (cxOf (L2.CX P w) P w K mg base ["_law_thing", "_law_found"] "_law_made" (defScope s_law_made) f cdv A outer s H E)) rfl
    obtain ⟨v, rfl, k⟩ := h
    refine ⟨_, (pss_cons (q_set 1 nd (pe_lst (pa_cons (q_xv X_BadSum (hr.mono (by decide)) (pa_cons (pv 0) pa_nil)) (pa_cons (q_xv X_BadCondition (hr.mono (by decide)) (pa_cons (pv 0) pa_nil)) (pa_cons (q_xv X_BadProgram (hr.mono (by decide)) (pa_cons (pv 0) pa_nil)) (pa_cons (q_xv X_BadMoment (hr.mono (by decide)) (pa_cons (pv 0) pa_nil)) (pa_cons (q_xv X_BadArgument (hr.mono (by decide)) (pa_cons (pv 0) pa_nil)) pa_nil))))))) (pss_cons (q_set 1 nd (pe_op op_dAdd (pv 1) (pe_lst (pa_cons (q_xv X_BadAnswer (hr.mono (by decide)) (pa_cons (pv 0) pa_nil)) (pa_cons (q_xv X_Unlike (hr.mono (by decide)) (pa_cons (pv 0) pa_nil)) (pa_cons (q_xv X_BadWorld (hr.mono (by decide)) (pa_cons (pv 0) pa_nil)) (pa_cons (q_xv X_BadMove (hr.mono (by decide)) (pa_cons (pv 0) pa_nil)) (pa_cons (q_xv X_BadSchedule (hr.mono (by decide)) (pa_cons (pv 0) pa_nil)) pa_nil)))))))) (pss_cons (q_set 1 nd (pe_op op_dAdd (pv 1) (pe_lst (pa_cons (q_xv X_BadLine (hr.mono (by decide)) (pa_cons (pv 0) pa_nil)) (pa_cons (q_xv X_BadReport (hr.mono (by decide)) (pa_cons (pv 0) pa_nil)) (pa_cons (q_xv X_TooMany (hr.mono (by decide)) (pa_cons (pv 0) pa_nil)) (pa_cons (q_xv X_UnknownRequest (hr.mono (by decide)) (pa_cons (pv 0) pa_nil)) (pa_cons (q_xv X_UnknownEvent (hr.mono (by decide)) (pa_cons (pv 0) pa_nil)) pa_nil)))))))) (pss_one (ps_ret (pe_op op_dAdd (pv 1) (pe_lst (pa_cons (q_xv X_UnknownState (hr.mono (by decide)) (pa_cons (pv 0) pa_nil)) (pa_cons (q_xv X_NoReport (hr.mono (by decide)) (pa_cons (pv 0) pa_nil)) (pa_cons (q_xv X_NotMovable (hr.mono (by decide)) (pa_cons (pv 0) pa_nil)) (pa_cons (q_xv X_NotIdle (hr.mono (by decide)) (pa_cons (pv 0) pa_nil)) (pa_cons (q_xv X_ScopeOver (hr.mono (by decide)) (pa_cons (pv 0) pa_nil)) pa_nil)))))))))))), ?_⟩
    refine g_start (σ' := some _ :: none :: []) rfl ?_
    walk_at "go"
    have E0 : Exs K xcl xfl H [] v := Exs.nil
    refine g_mkv ?_
    walk_at "go"
    refine fun a0 d0 H1 ha0 hd0 e1 x0 y0 => ?_
    have E1 : Exs K xcl xfl H1 [a0] v := (E0.ed e1).snoc (n := 0) ⟨d0, x0, y0⟩
    walk_at "go"
    refine g_mkv ?_
    walk_at "go"
    refine fun a1 d1 H2 ha1 hd1 e2 x1 y1 => ?_
    have E2 : Exs K xcl xfl H2 [a0, a1] v := (E1.ed e2).snoc (n := 1) ⟨d1, x1, y1⟩
    walk_at "go"
    refine g_mkv ?_
    walk_at "go"
    refine fun a2 d2 H3 ha2 hd2 e3 x2 y2 => ?_
    have E3 : Exs K xcl xfl H3 [a0, a1, a2] v := (E2.ed e3).snoc (n := 2) ⟨d2, x2, y2⟩
    walk_at "go"
    refine g_mkv ?_
    walk_at "go"
    refine fun a3 d3 H4 ha3 hd3 e4 x3 y3 => ?_
    have E4 : Exs K xcl xfl H4 [a0, a1, a2, a3] v := (E3.ed e4).snoc (n := 3) ⟨d3, x3, y3⟩
    walk_at "go"
    refine g_mkv ?_
    walk_at "go"
    refine fun a4 d4 H5 ha4 hd4 e5 x4 y4 => ?_
    have E5 : Exs K xcl xfl H5 [a0, a1, a2, a3, a4] v := (E4.ed e5).snoc (n := 4) ⟨d4, x4, y4⟩
    walk_at "go"
    refine al fun p6 hp6 => ?_
    generalize hG : upd H5 p6 _ = H6
    have s6 : H6 p6 = some (.lst ([a0, a1, a2, a3, a4].map V.ref)) := by rw [← hG]; exact upd_same
    have e6 : Ed [] H5 H6 := by rw [← hG]; exact Ed.new hp6
    clear hG
    have E6 := E5.ed e6
    have r6 := s6
    walk_at "go"
    refine g_mkv ?_
    walk_at "go"
    refine fun a5 d5 H7 ha5 hd5 e7 x5 y5 => ?_
    have E7 : Exs K xcl xfl H7 [a0, a1, a2, a3, a4, a5] v := (E6.ed e7).snoc (n := 5) ⟨d5, x5, y5⟩
    have r7 := e7.get List.not_mem_nil r6
    walk_at "go"
    refine g_mkv ?_
    walk_at "go"
    refine fun a6 d6 H8 ha6 hd6 e8 x6 y6 => ?_
    have E8 : Exs K xcl xfl H8 [a0, a1, a2, a3, a4, a5, a6] v := (E7.ed e8).snoc (n := 6) ⟨d6, x6, y6⟩
    have r8 := e8.get List.not_mem_nil r7
    walk_at "go"
    refine g_mkv ?_
    walk_at "go"
    refine fun a7 d7 H9 ha7 hd7 e9 x7 y7 => ?_
    have E9 : Exs K xcl xfl H9 [a0, a1, a2, a3, a4, a5, a6, a7] v := (E8.ed e9).snoc (n := 7) ⟨d7, x7, y7⟩
    have r9 := e9.get List.not_mem_nil r8
    walk_at "go"
    refine g_mkv ?_
    walk_at "go"
    refine fun a8 d8 H10 ha8 hd8 e10 x8 y8 => ?_
    have E10 : Exs K xcl xfl H10 [a0, a1, a2, a3, a4, a5, a6, a7, a8] v := (E9.ed e10).snoc (n := 8) ⟨d8, x8, y8⟩
    have r10 := e10.get List.not_mem_nil r9
    walk_at "go"
    refine g_mkv ?_
    walk_at "go"
    refine fun a9 d9 H11 ha9 hd9 e11 x9 y9 => ?_
    have E11 : Exs K xcl xfl H11 [a0, a1, a2, a3, a4, a5, a6, a7, a8, a9] v := (E10.ed e11).snoc (n := 9) ⟨d9, x9, y9⟩
    have r11 := e11.get List.not_mem_nil r10
    walk_at "go"
    refine al fun p12 hp12 => ?_
    generalize hG : upd H11 p12 _ = H12
    have s12 : H12 p12 = some (.lst ([a5, a6, a7, a8, a9].map V.ref)) := by rw [← hG]; exact upd_same
    have e12 : Ed [] H11 H12 := by rw [← hG]; exact Ed.new hp12
    clear hG
    have E12 := E11.ed e12
    have r12 := e12.get List.not_mem_nil r11
    walk_at "go"
    refine ⟨_, _, r12, s12, by rw [sizeLine_eq]; exact Nat.le_of_ble_eq_true rfl, fun p13 hp13 => ?_⟩
    generalize hG : upd H12 p13 _ = H13
    have r13 : H13 p13 = some (.lst ([a0, a1, a2, a3, a4, a5, a6, a7, a8, a9].map V.ref)) := by rw [← hG]; exact upd_same
    have e13 : Ed [] H12 H13 := by rw [← hG]; exact Ed.new hp13
    clear hG
    have E13 := E12.ed e13
    walk_at "go"
    refine g_mkv ?_
    walk_at "go"
    refine fun a10 d10 H14 ha10 hd10 e14 x10 y10 => ?_
    have E14 : Exs K xcl xfl H14 [a0, a1, a2, a3, a4, a5, a6, a7, a8, a9, a10] v := (E13.ed e14).snoc (n := 10) ⟨d10, x10, y10⟩
    have r14 := e14.get List.not_mem_nil r13
    walk_at "go"
    refine g_mkv ?_
    walk_at "go"
    refine fun a11 d11 H15 ha11 hd11 e15 x11 y11 => ?_
    have E15 : Exs K xcl xfl H15 [a0, a1, a2, a3, a4, a5, a6, a7, a8, a9, a10, a11] v := (E14.ed e15).snoc (n := 11) ⟨d11, x11, y11⟩
    have r15 := e15.get List.not_mem_nil r14
    walk_at "go"
    refine g_mkv ?_
    walk_at "go"
    refine fun a12 d12 H16 ha12 hd12 e16 x12 y12 => ?_
    have E16 : Exs K xcl xfl H16 [a0, a1, a2, a3, a4, a5, a6, a7, a8, a9, a10, a11, a12] v := (E15.ed e16).snoc (n := 12) ⟨d12, x12, y12⟩
    have r16 := e16.get List.not_mem_nil r15
    walk_at "go"
    refine g_mkv ?_
    walk_at "go"
    refine fun a13 d13 H17 ha13 hd13 e17 x13 y13 => ?_
    have E17 : Exs K xcl xfl H17 [a0, a1, a2, a3, a4, a5, a6, a7, a8, a9, a10, a11, a12, a13] v := (E16.ed e17).snoc (n := 13) ⟨d13, x13, y13⟩
    have r17 := e17.get List.not_mem_nil r16
    walk_at "go"
    refine g_mkv ?_
    walk_at "go"
    refine fun a14 d14 H18 ha14 hd14 e18 x14 y14 => ?_
    have E18 : Exs K xcl xfl H18 [a0, a1, a2, a3, a4, a5, a6, a7, a8, a9, a10, a11, a12, a13, a14] v := (E17.ed e18).snoc (n := 14) ⟨d14, x14, y14⟩
    have r18 := e18.get List.not_mem_nil r17
    walk_at "go"
    refine al fun p19 hp19 => ?_
    generalize hG : upd H18 p19 _ = H19
    have s19 : H19 p19 = some (.lst ([a10, a11, a12, a13, a14].map V.ref)) := by rw [← hG]; exact upd_same
    have e19 : Ed [] H18 H19 := by rw [← hG]; exact Ed.new hp19
    clear hG
    have E19 := E18.ed e19
    have r19 := e19.get List.not_mem_nil r18
    walk_at "go"
    refine ⟨_, _, r19, s19, by rw [sizeLine_eq]; exact Nat.le_of_ble_eq_true rfl, fun p20 hp20 => ?_⟩
    generalize hG : upd H19 p20 _ = H20
    have r20 : H20 p20 = some (.lst ([a0, a1, a2, a3, a4, a5, a6, a7, a8, a9, a10, a11, a12, a13, a14].map V.ref)) := by rw [← hG]; exact upd_same
    have e20 : Ed [] H19 H20 := by rw [← hG]; exact Ed.new hp20
    clear hG
    have E20 := E19.ed e20
    walk_at "go"
    refine g_mkv ?_
    walk_at "go"
    refine fun a15 d15 H21 ha15 hd15 e21 x15 y15 => ?_
    have E21 : Exs K xcl xfl H21 [a0, a1, a2, a3, a4, a5, a6, a7, a8, a9, a10, a11, a12, a13, a14, a15] v := (E20.ed e21).snoc (n := 15) ⟨d15, x15, y15⟩
    have r21 := e21.get List.not_mem_nil r20
    walk_at "go"
    refine g_mkv ?_
    walk_at "go"
    refine fun a16 d16 H22 ha16 hd16 e22 x16 y16 => ?_
    have E22 : Exs K xcl xfl H22 [a0, a1, a2, a3, a4, a5, a6, a7, a8, a9, a10, a11, a12, a13, a14, a15, a16] v := (E21.ed e22).snoc (n := 16) ⟨d16, x16, y16⟩
    have r22 := e22.get List.not_mem_nil r21
    walk_at "go"
    refine g_mkv ?_
    walk_at "go"
    refine fun a17 d17 H23 ha17 hd17 e23 x17 y17 => ?_
    have E23 : Exs K xcl xfl H23 [a0, a1, a2, a3, a4, a5, a6, a7, a8, a9, a10, a11, a12, a13, a14, a15, a16, a17] v := (E22.ed e23).snoc (n := 17) ⟨d17, x17, y17⟩
    have r23 := e23.get List.not_mem_nil r22
    walk_at "go"
    refine g_mkv ?_
    walk_at "go"
    refine fun a18 d18 H24 ha18 hd18 e24 x18 y18 => ?_
    have E24 : Exs K xcl xfl H24 [a0, a1, a2, a3, a4, a5, a6, a7, a8, a9, a10, a11, a12, a13, a14, a15, a16, a17, a18] v := (E23.ed e24).snoc (n := 18) ⟨d18, x18, y18⟩
    have r24 := e24.get List.not_mem_nil r23
    walk_at "go"
    refine g_mkv ?_
    walk_at "go"
    refine fun a19 d19 H25 ha19 hd19 e25 x19 y19 => ?_
    have E25 : Exs K xcl xfl H25 [a0, a1, a2, a3, a4, a5, a6, a7, a8, a9, a10, a11, a12, a13, a14, a15, a16, a17, a18, a19] v := (E24.ed e25).snoc (n := 19) ⟨d19, x19, y19⟩
    have r25 := e25.get List.not_mem_nil r24
    walk_at "go"
    refine al fun p26 hp26 => ?_
    generalize hG : upd H25 p26 _ = H26
    have s26 : H26 p26 = some (.lst ([a15, a16, a17, a18, a19].map V.ref)) := by rw [← hG]; exact upd_same
    have e26 : Ed [] H25 H26 := by rw [← hG]; exact Ed.new hp26
    clear hG
    have E26 := E25.ed e26
    have r26 := e26.get List.not_mem_nil r25
    walk_at "go"
    refine ⟨_, _, r26, s26, by rw [sizeLine_eq]; exact Nat.le_of_ble_eq_true rfl, fun p27 hp27 => ?_⟩
    generalize hG : upd H26 p27 _ = H27
    have r27 : H27 p27 = some (.lst ([a0, a1, a2, a3, a4, a5, a6, a7, a8, a9, a10, a11, a12, a13, a14, a15, a16, a17, a18, a19].map V.ref)) := by rw [← hG]; exact upd_same
    have e27 : Ed [] H26 H27 := by rw [← hG]; exact Ed.new hp27
    clear hG
    have E27 := E26.ed e27
    refine k p27 [a0, a1, a2, a3, a4, a5, a6, a7, a8, a9, a10, a11, a12, a13, a14, a15, a16, a17, a18, a19] H27 ?_ r27 rfl E27
    exact ((((((((((((((((((((((((((e1.tr e2 no0).tr e3 no0).tr e4 no0).tr e5 no0).tr e6 no0).tr e7 no0).tr e8 no0).tr e9 no0).tr e10 no0).tr e11 no0).tr e12 no0).tr e13 no0).tr e14 no0).tr e15 no0).tr e16 no0).tr e17 no0).tr e18 no0).tr e19 no0).tr e20 no0).tr e21 no0).tr e22 no0).tr e23 no0).tr e24 no0).tr e25 no0).tr e26 no0).tr e27 no0)
end
section
variable {P : Program} {w : World} {K : PySem.W.Frag} {mg : Str → Option Value} {base : Heap}
theorem ok_law_kinds {f : Addr} {fd : FuncData} (F : FnP K "_law_kinds" "_law_kinds" s_law_kinds f fd) (T : Txt K mg)   : FnOk P w K mg base (L2.CX P w) 1 f fd ["_law_one"] (sp_law_kinds K) := by
  refine F.ok sc_law_kinds (fun vs H Q E h => ?_) (fun cdv A outer s H vs Q E hr h => ?_)
  · obtain ⟨W, a, i, v, rfl, _⟩ := h
    rfl
  · have nd := sc_law_kinds.nd
    have tk := takes_of (E := E) (X := (cxOf (L2.CX P w) P w K mg base ["_law_one", "_law_found", "_law_k", "_law_is_so"] "_law_kinds" (defScope s_law_kinds) f cdv A outer s H E)) rfl rfl rfl rfl
    have po : PassesOwn (model P w) (cxOf (L2.CX P w) P w K mg base ["_law_one", "_law_found", "_law_k", "_law_is_so"] "_law_kinds" (defScope s_law_kinds) f cdv A outer s H E).A (cxOf (L2.CX P w) P w K mg base ["_law_one", "_law_found", "_law_k", "_law_is_so"] "_law_kinds" (defScope s_law_kinds) f cdv A outer s H E).env (cxOf (L2.CX P w) P w K mg base ["_law_one", "_law_found", "_law_k", "_law_is_so"] "_law_kinds" (defScope s_law_kinds) f cdv A outer s H E).xe := passes_of (X := (cxOf (L2.CX P w) P w K mg base ["_law_one", "_law_found", "_law_k", "_law_is_so"] "_law_kinds" (defScope s_law_kinds) f cdv A outer s H E)) rfl
    obtain ⟨W, a, i, v, rfl, hi, hx, hw, k⟩ := h
    refine ⟨_, (pss_cons (q_set 1 nd (pe_lst (pa_cons (pe_callB (cl_isV K) (by rfl) T.n_isinstance bt_isinstance (pa_cons (pv 0) (pa_cons (q_glob T.g_BadSum) pa_nil))) (pa_cons (pe_callB (cl_isV K) (by rfl) T.n_isinstance bt_isinstance (pa_cons (pv 0) (pa_cons (q_glob T.g_BadCondition) pa_nil))) (pa_cons (pe_callB (cl_isV K) (by rfl) T.n_isinstance bt_isinstance (pa_cons (pv 0) (pa_cons (q_glob T.g_BadProgram) pa_nil))) pa_nil))))) (pss_cons (ps_expr (q_bm K PySem.F.plainAttrs_list PySem.F.slot_list_append PySem.F.type_list_append m_append (pv 1) (pa_cons (pe_callB (cl_isV K) (by rfl) T.n_isinstance bt_isinstance (pa_cons (pv 0) (pa_cons (q_glob T.g_BadMoment) pa_nil))) pa_nil))) (pss_cons (q_set 1 nd (pe_op op_dAdd (pv 1) (pe_lst (pa_cons (pe_callB (cl_isV K) (by rfl) T.n_isinstance bt_isinstance (pa_cons (pv 0) (pa_cons (q_glob T.g_BadArgument) pa_nil))) (pa_cons (pe_callB (cl_isV K) (by rfl) T.n_isinstance bt_isinstance (pa_cons (pv 0) (pa_cons (q_glob T.g_BadAnswer) pa_nil))) (pa_cons (pe_callB (cl_isV K) (by rfl) T.n_isinstance bt_isinstance (pa_cons (pv 0) (pa_cons (q_glob T.g_Unlike) pa_nil))) pa_nil)))))) (pss_cons (q_set 1 nd (pe_op op_dAdd (pv 1) (pe_lst (pa_cons (pe_callB (cl_isV K) (by rfl) T.n_isinstance bt_isinstance (pa_cons (pv 0) (pa_cons (q_glob T.g_BadWorld) pa_nil))) (pa_cons (pe_callB (cl_isV K) (by rfl) T.n_isinstance bt_isinstance (pa_cons (pv 0) (pa_cons (q_glob T.g_BadMove) pa_nil))) (pa_cons (pe_callB (cl_isV K) (by rfl) T.n_isinstance bt_isinstance (pa_cons (pv 0) (pa_cons (q_glob T.g_BadSchedule) pa_nil))) pa_nil)))))) (pss_cons (q_set 1 nd (pe_op op_dAdd (pv 1) (pe_lst (pa_cons (pe_callB (cl_isV K) (by rfl) T.n_isinstance bt_isinstance (pa_cons (pv 0) (pa_cons (q_glob T.g_BadLine) pa_nil))) (pa_cons (pe_callB (cl_isV K) (by rfl) T.n_isinstance bt_isinstance (pa_cons (pv 0) (pa_cons (q_glob T.g_BadReport) pa_nil))) (pa_cons (pe_callB (cl_isV K) (by rfl) T.n_isinstance bt_isinstance (pa_cons (pv 0) (pa_cons (q_glob T.g_TooMany) pa_nil))) pa_nil)))))) (pss_cons (q_set 1 nd (pe_op op_dAdd (pv 1) (pe_lst (pa_cons (pe_callB (cl_isV K) (by rfl) T.n_isinstance bt_isinstance (pa_cons (pv 0) (pa_cons (q_glob T.g_UnknownRequest) pa_nil))) (pa_cons (pe_callB (cl_isV K) (by rfl) T.n_isinstance bt_isinstance (pa_cons (pv 0) (pa_cons (q_glob T.g_UnknownEvent) pa_nil))) (pa_cons (pe_callB (cl_isV K) (by rfl) T.n_isinstance bt_isinstance (pa_cons (pv 0) (pa_cons (q_glob T.g_UnknownState) pa_nil))) pa_nil)))))) (pss_cons (q_set 1 nd (pe_op op_dAdd (pv 1) (pe_lst (pa_cons (pe_callB (cl_isV K) (by rfl) T.n_isinstance bt_isinstance (pa_cons (pv 0) (pa_cons (q_glob T.g_NoReport) pa_nil))) (pa_cons (pe_callB (cl_isV K) (by rfl) T.n_isinstance bt_isinstance (pa_cons (pv 0) (pa_cons (q_glob T.g_NotMovable) pa_nil))) (pa_cons (pe_callB (cl_isV K) (by rfl) T.n_isinstance bt_isinstance (pa_cons (pv 0) (pa_cons (q_glob T.g_NotIdle) pa_nil))) pa_nil)))))) (pss_one (ps_ret (pe_lc (own := [("_law_k", 2), ("_law_is_so", 3)]) rfl nd (q_enum K T.n_enumerate (pa_cons (pe_op op_dAdd (pv 1) (pe_lst (pa_cons (pe_callB (cl_isV K) (by rfl) T.n_isinstance bt_isinstance (pa_cons (pv 0) (pa_cons (q_glob T.g_ScopeOver) pa_nil))) pa_nil))) pa_nil)) (blkOk_by (own := [("_law_k", 2), ("_law_is_so", 3)]) (N := ["_law_one", "_law_found", "_law_k", "_law_is_so"]) (sc := defScope s_law_kinds) (by decide +kernel)) (fun _ _ _ _ _ => (q_gtup K 2 (pgs_cons (q_name 2 nd) (pgs_cons (q_name 3 nd) pgs_nil)))) (fun _ _ _ _ _ => (pts_one (q_truth K (pv 3)))) (fun _ _ _ _ _ => (pv 2)))))))))))), ?_⟩
    refine g_start (σ' := some _ :: none :: none :: none :: []) rfl ?_
    walk_at "go"
    refine g_isJ T hi hx 0 (by decide) (by rfl) ?_
    walk_at "go"
    refine g_isJ T hi hx 1 (by decide) (by rfl) ?_
    walk_at "go"
    refine g_isJ T hi hx 2 (by decide) (by rfl) ?_
    walk_at "go"
    refine al fun p1 hp1 => ?_
    generalize hG : upd H p1 _ = H1
    have s1 : H1 p1 = some (.lst [V.bl (decide (i = 0)), V.bl (decide (i = 1)), V.bl (decide (i = 2))]) := by rw [← hG]; exact upd_same
    have e1 : Ed [] H H1 := by rw [← hG]; exact Ed.new hp1
    clear hG
    have x1 := hx.ed e1 (fun _ z => absurd z List.not_mem_nil)
    have r1 := s1
    walk_at "go"
    refine g_isJ T hi x1 3 (by decide) (by rfl) ?_
    walk_at "go"
    refine g_app r1 (by rw [sizeLine_eq]; exact Nat.le_of_ble_eq_true rfl) ?_
    generalize hG : upd H1 p1 _ = H2
    have r2 : H2 p1 = some (.lst [V.bl (decide (i = 0)), V.bl (decide (i = 1)), V.bl (decide (i = 2)), V.bl (decide (i = 3))]) := by rw [← hG]; exact upd_same
    have E02 : Ed [] H H2 := by rw [← hG]; exact Ed.new2 hp1 e1
    have x2 := hx.ed E02 (fun _ z => absurd z List.not_mem_nil)
    clear hG
    walk_at "go"
    refine g_isJ T hi x2 4 (by decide) (by rfl) ?_
    walk_at "go"
    refine g_isJ T hi x2 5 (by decide) (by rfl) ?_
    walk_at "go"
    refine g_isJ T hi x2 6 (by decide) (by rfl) ?_
    walk_at "go"
    refine al fun p3 hp3 => ?_
    generalize hG : upd H2 p3 _ = H3
    have s3 : H3 p3 = some (.lst [V.bl (decide (i = 4)), V.bl (decide (i = 5)), V.bl (decide (i = 6))]) := by rw [← hG]; exact upd_same
    have e3 : Ed [] H2 H3 := by rw [← hG]; exact Ed.new hp3
    clear hG
    have x3 := x2.ed e3 (fun _ z => absurd z List.not_mem_nil)
    have r3 := e3.get List.not_mem_nil r2
    walk_at "go"
    refine ⟨_, _, r3, s3, by rw [sizeLine_eq]; exact Nat.le_of_ble_eq_true rfl, fun p4 hp4 => ?_⟩
    generalize hG : upd H3 p4 _ = H4
    have r4 : H4 p4 = some (.lst [V.bl (decide (i = 0)), V.bl (decide (i = 1)), V.bl (decide (i = 2)), V.bl (decide (i = 3)), V.bl (decide (i = 4)), V.bl (decide (i = 5)), V.bl (decide (i = 6))]) := by rw [← hG]; exact upd_same
    have e4 : Ed [] H3 H4 := by rw [← hG]; exact Ed.new hp4
    clear hG
    have x4 := x3.ed e4 (fun _ z => absurd z List.not_mem_nil)
    walk_at "go"
    refine g_isJ T hi x4 7 (by decide) (by rfl) ?_
    walk_at "go"
    refine g_isJ T hi x4 8 (by decide) (by rfl) ?_
    walk_at "go"
    refine g_isJ T hi x4 9 (by decide) (by rfl) ?_
    walk_at "go"
    refine al fun p5 hp5 => ?_
    generalize hG : upd H4 p5 _ = H5
    have s5 : H5 p5 = some (.lst [V.bl (decide (i = 7)), V.bl (decide (i = 8)), V.bl (decide (i = 9))]) := by rw [← hG]; exact upd_same
    have e5 : Ed [] H4 H5 := by rw [← hG]; exact Ed.new hp5
    clear hG
    have x5 := x4.ed e5 (fun _ z => absurd z List.not_mem_nil)
    have r5 := e5.get List.not_mem_nil r4
    walk_at "go"
    refine ⟨_, _, r5, s5, by rw [sizeLine_eq]; exact Nat.le_of_ble_eq_true rfl, fun p6 hp6 => ?_⟩
    generalize hG : upd H5 p6 _ = H6
    have r6 : H6 p6 = some (.lst [V.bl (decide (i = 0)), V.bl (decide (i = 1)), V.bl (decide (i = 2)), V.bl (decide (i = 3)), V.bl (decide (i = 4)), V.bl (decide (i = 5)), V.bl (decide (i = 6)), V.bl (decide (i = 7)), V.bl (decide (i = 8)), V.bl (decide (i = 9))]) := by rw [← hG]; exact upd_same
    have e6 : Ed [] H5 H6 := by rw [← hG]; exact Ed.new hp6
    clear hG
    have x6 := x5.ed e6 (fun _ z => absurd z List.not_mem_nil)
    walk_at "go"
    refine g_isJ T hi x6 10 (by decide) (by rfl) ?_
    walk_at "go"
    refine g_isJ T hi x6 11 (by decide) (by rfl) ?_
    walk_at "go"
    refine g_isJ T hi x6 12 (by decide) (by rfl) ?_
    walk_at "go"
    refine al fun p7 hp7 => ?_
    generalize hG : upd H6 p7 _ = H7
    have s7 : H7 p7 = some (.lst [V.bl (decide (i = 10)), V.bl (decide (i = 11)), V.bl (decide (i = 12))]) := by rw [← hG]; exact upd_same
    have e7 : Ed [] H6 H7 := by rw [← hG]; exact Ed.new hp7
    clear hG
    have x7 := x6.ed e7 (fun _ z => absurd z List.not_mem_nil)
    have r7 := e7.get List.not_mem_nil r6
    walk_at "go"
    refine ⟨_, _, r7, s7, by rw [sizeLine_eq]; exact Nat.le_of_ble_eq_true rfl, fun p8 hp8 => ?_⟩
    generalize hG : upd H7 p8 _ = H8
    have r8 : H8 p8 = some (.lst [V.bl (decide (i = 0)), V.bl (decide (i = 1)), V.bl (decide (i = 2)), V.bl (decide (i = 3)), V.bl (decide (i = 4)), V.bl (decide (i = 5)), V.bl (decide (i = 6)), V.bl (decide (i = 7)), V.bl (decide (i = 8)), V.bl (decide (i = 9)), V.bl (decide (i = 10)), V.bl (decide (i = 11)), V.bl (decide (i = 12))]) := by rw [← hG]; exact upd_same
    have e8 : Ed [] H7 H8 := by rw [← hG]; exact Ed.new hp8
    clear hG
    have x8 := x7.ed e8 (fun _ z => absurd z List.not_mem_nil)
    walk_at "go"
    refine g_isJ T hi x8 13 (by decide) (by rfl) ?_
    walk_at "go"
    refine g_isJ T hi x8 14 (by decide) (by rfl) ?_
    walk_at "go"
    refine g_isJ T hi x8 15 (by decide) (by rfl) ?_
    walk_at "go"
    refine al fun p9 hp9 => ?_
    generalize hG : upd H8 p9 _ = H9
    have s9 : H9 p9 = some (.lst [V.bl (decide (i = 13)), V.bl (decide (i = 14)), V.bl (decide (i = 15))]) := by rw [← hG]; exact upd_same
    have e9 : Ed [] H8 H9 := by rw [← hG]; exact Ed.new hp9
    clear hG
    have x9 := x8.ed e9 (fun _ z => absurd z List.not_mem_nil)
    have r9 := e9.get List.not_mem_nil r8
    walk_at "go"
    refine ⟨_, _, r9, s9, by rw [sizeLine_eq]; exact Nat.le_of_ble_eq_true rfl, fun p10 hp10 => ?_⟩
    generalize hG : upd H9 p10 _ = H10
    have r10 : H10 p10 = some (.lst [V.bl (decide (i = 0)), V.bl (decide (i = 1)), V.bl (decide (i = 2)), V.bl (decide (i = 3)), V.bl (decide (i = 4)), V.bl (decide (i = 5)), V.bl (decide (i = 6)), V.bl (decide (i = 7)), V.bl (decide (i = 8)), V.bl (decide (i = 9)), V.bl (decide (i = 10)), V.bl (decide (i = 11)), V.bl (decide (i = 12)), V.bl (decide (i = 13)), V.bl (decide (i = 14)), V.bl (decide (i = 15))]) := by rw [← hG]; exact upd_same
    have e10 : Ed [] H9 H10 := by rw [← hG]; exact Ed.new hp10
    clear hG
    have x10 := x9.ed e10 (fun _ z => absurd z List.not_mem_nil)
    walk_at "go"
    refine g_isJ T hi x10 16 (by decide) (by rfl) ?_
    walk_at "go"
    refine g_isJ T hi x10 17 (by decide) (by rfl) ?_
    walk_at "go"
    refine g_isJ T hi x10 18 (by decide) (by rfl) ?_
    walk_at "go"
    refine al fun p11 hp11 => ?_
    generalize hG : upd H10 p11 _ = H11
    have s11 : H11 p11 = some (.lst [V.bl (decide (i = 16)), V.bl (decide (i = 17)), V.bl (decide (i = 18))]) := by rw [← hG]; exact upd_same
    have e11 : Ed [] H10 H11 := by rw [← hG]; exact Ed.new hp11
    clear hG
    have x11 := x10.ed e11 (fun _ z => absurd z List.not_mem_nil)
    have r11 := e11.get List.not_mem_nil r10
    walk_at "go"
    refine ⟨_, _, r11, s11, by rw [sizeLine_eq]; exact Nat.le_of_ble_eq_true rfl, fun p12 hp12 => ?_⟩
    generalize hG : upd H11 p12 _ = H12
    have r12 : H12 p12 = some (.lst [V.bl (decide (i = 0)), V.bl (decide (i = 1)), V.bl (decide (i = 2)), V.bl (decide (i = 3)), V.bl (decide (i = 4)), V.bl (decide (i = 5)), V.bl (decide (i = 6)), V.bl (decide (i = 7)), V.bl (decide (i = 8)), V.bl (decide (i = 9)), V.bl (decide (i = 10)), V.bl (decide (i = 11)), V.bl (decide (i = 12)), V.bl (decide (i = 13)), V.bl (decide (i = 14)), V.bl (decide (i = 15)), V.bl (decide (i = 16)), V.bl (decide (i = 17)), V.bl (decide (i = 18))]) := by rw [← hG]; exact upd_same
    have e12 : Ed [] H11 H12 := by rw [← hG]; exact Ed.new hp12
    clear hG
    have x12 := x11.ed e12 (fun _ z => absurd z List.not_mem_nil)
    walk_at "go"
    refine g_isJ T hi x12 19 (by decide) (by rfl) ?_
    walk_at "go"
    refine al fun p13 hp13 => ?_
    generalize hG : upd H12 p13 _ = H13
    have s13 : H13 p13 = some (.lst [V.bl (decide (i = 19))]) := by rw [← hG]; exact upd_same
    have e13 : Ed [] H12 H13 := by rw [← hG]; exact Ed.new hp13
    clear hG
    have x13 := x12.ed e13 (fun _ z => absurd z List.not_mem_nil)
    have r13 := e13.get List.not_mem_nil r12
    walk_at "go"
    refine ⟨_, _, r13, s13, by rw [sizeLine_eq]; exact Nat.le_of_ble_eq_true rfl, fun p14 hp14 => ?_⟩
    generalize hG : upd H13 p14 _ = H14
    have E0 : Ed [] H H13 := (((((((((((E02.tr e3 no0).tr e4 no0).tr e5 no0).tr e6 no0).tr e7 no0).tr e8 no0).tr e9 no0).tr e10 no0).tr e11 no0).tr e12 no0).tr e13 no0)
    obtain ⟨eL, dL⟩ := new_l (W := W) (ds := [decide (i = 0), decide (i = 1), decide (i = 2), decide (i = 3), decide (i = 4), decide (i = 5), decide (i = 6), decide (i = 7), decide (i = 8), decide (i = 9), decide (i = 10), decide (i = 11), decide (i = 12), decide (i = 13), decide (i = 14), decide (i = 15), decide (i = 16), decide (i = 17), decide (i = 18), decide (i = 19)].map PyData.bool) hG hp14 (DfAll.bools [decide (i = 0), decide (i = 1), decide (i = 2), decide (i = 3), decide (i = 4), decide (i = 5), decide (i = 6), decide (i = 7), decide (i = 8), decide (i = 9), decide (i = 10), decide (i = 11), decide (i = 12), decide (i = 13), decide (i = 14), decide (i = 15), decide (i = 16), decide (i = 17), decide (i = 18), decide (i = 19)]) (hw.ed E0)
    clear hG
    have wL := (hw.ed E0).ed eL
    have E1 : Ed [] H H14 := E0.tr eL no0
    walk_at "go"
    intro D hD
    refine lc_en (by walk_at "wipe") (U := []) (W := W) dL (by simp; rw [sizeLine_eq]; exact Nat.le_of_ble_eq_true rfl) hD wL no0 (fun k acc => acc = if i < k then [PyData.int (i : Nat)] else []) (fun _ => True) (fun _ _ _ _ => trivial) (fun _ _ _ _ => trivial) trivial (by rw [if_neg (Nat.not_lt_zero i)]) ?_ ?_
    · rintro k1 x t d acc H' R N hd hacc _ e1 w1 ht hx yes no
      have hd' : ((List.range 20).map fun j => PyData.bool (decide (i = j)))[k1]? = some d := hd
      obtain ⟨j, hj, rfl⟩ := at_map hd'
      have hk : k1 < 20 := by
        have := (List.getElem?_eq_some_iff.mp hj).1
        simpa using this
      have ej : j = k1 := by
        rw [List.getElem?_range hk] at hj
        exact (Option.some.inj hj).symm
      subst ej
      cases hx
      walk_at "go"
      refine ⟨rfl, ?_⟩
      walk_at "go"
      subst hacc
      by_cases q : i = j
      · subst q
        rw [if_pos (decide_eq_true rfl)]
        walk_at "go"
        refine yes _ H' (.int (i : Nat)) Ed.refl (.int _) trivial ?_
        rw [if_neg (Nat.lt_irrefl i), if_pos (Nat.lt_succ_self i)]
        rfl
      · rw [if_neg (by rw [decide_eq_true_eq]; exact q)]
        refine no H' Ed.refl trivial ?_
        by_cases q2 : i < j
        · rw [if_pos q2, if_pos (by omega)]
        · rw [if_neg q2, if_neg (by omega)]
    · rintro acc H' hacc _ e1 dD _
      have hacc2 : acc = [PyData.int (i : Nat)] := by rw [hacc]; exact if_pos hi
      subst hacc2
      exact k D H' (E1.tr e1 no0) dD
end
section
variable {P : Program} {w : World} {K : PySem.W.Frag} {mg : Str → Option Value} {base : Heap}
theorem ok_law_fields {f : Addr} {fd : FuncData} (F : FnP K "_law_fields" "_law_fields" s_law_fields f fd) (T : Txt K mg)   : FnOk P w K mg base (L2.CX P w) 1 f fd ["_law_found"] (sp_law_fields K) := by
  refine F.ok sc_law_fields (fun vs H Q E h => ?_) (fun cdv A outer s H vs Q E hr h => ?_)
  · obtain ⟨W, p, as, v, d, rfl, _⟩ := h
    rfl
  · have nd := sc_law_fields.nd
    have tk := takes_of (E := E) (X := (cxOf (L2.CX P w) P w K mg base ["_law_found", "_law_told"] "_law_fields" (defScope s_law_fields) f cdv A outer s H E)) rfl rfl rfl rfl
    have po : PassesOwn (model P w) (cxOf (L2.CX P w) P w K mg base ["_law_found", "_law_told"] "_law_fields" (defScope s_law_fields) f cdv A outer s H E).A (cxOf (L2.CX P w) P w K mg base ["_law_found", "_law_told"] "_law_fields" (defScope s_law_fields) f cdv A outer s H E).env (cxOf (L2.CX P w) P w K mg base ["_law_found", "_law_told"] "_law_fields" (defScope s_law_fields) f cdv A outer s H E).xe := passes_of (X := (cxOf (L2.CX P w) P w K mg base ["_law_found", "_law_told"] "_law_fields" (defScope s_law_fields) f cdv A outer s H E)) rfl
    obtain ⟨W, p, as, v, d, rfl, hp, hl, hE, hd, hw, k⟩ := h
    refine ⟨_, (pss_cons (q_set 1 nd (pe_lst (pa_cons (q_xvf K (pe_ix (ix_dyn K) (pv 0) pe_int (fun _ _ => rfl))) (pa_cons (q_xvf K (pe_ix (ix_dyn K) (pv 0) pe_int (fun _ _ => rfl))) (pa_cons (q_xvf K (pe_ix (ix_dyn K) (pv 0) pe_int (fun _ _ => rfl))) (pa_cons (q_xvf K (pe_ix (ix_dyn K) (pv 0) pe_int (fun _ _ => rfl))) (pa_cons (q_xvf K (pe_ix (ix_dyn K) (pv 0) pe_int (fun _ _ => rfl))) (pa_cons (q_xvf K (pe_ix (ix_dyn K) (pv 0) pe_int (fun _ _ => rfl))) pa_nil)))))))) (pss_cons (q_set 1 nd (pe_op op_dAdd (pv 1) (pe_lst (pa_cons (q_xvf K (pe_ix (ix_dyn K) (pv 0) pe_int (fun _ _ => rfl))) (pa_cons (q_xvf K (pe_ix (ix_dyn K) (pv 0) pe_int (fun _ _ => rfl))) (pa_cons (q_xvf K (pe_ix (ix_dyn K) (pv 0) pe_int (fun _ _ => rfl))) (pa_cons (q_xvf K (pe_ix (ix_dyn K) (pv 0) pe_int (fun _ _ => rfl))) (pa_cons (q_xvf K (pe_ix (ix_dyn K) (pv 0) pe_int (fun _ _ => rfl))) (pa_cons (q_xvf K (pe_ix (ix_dyn K) (pv 0) pe_int (fun _ _ => rfl))) pa_nil))))))))) (pss_cons (q_set 1 nd (pe_op op_dAdd (pv 1) (pe_lst (pa_cons (q_xvf K (pe_ix (ix_dyn K) (pv 0) pe_int (fun _ _ => rfl))) (pa_cons (q_xvf K (pe_ix (ix_dyn K) (pv 0) pe_int (fun _ _ => rfl))) (pa_cons (q_xvf K (pe_ix (ix_dyn K) (pv 0) pe_int (fun _ _ => rfl))) (pa_cons (q_xvf K (pe_ix (ix_dyn K) (pv 0) pe_int (fun _ _ => rfl))) (pa_cons (q_xvf K (pe_ix (ix_dyn K) (pv 0) pe_int (fun _ _ => rfl))) (pa_cons (q_xvf K (pe_ix (ix_dyn K) (pv 0) pe_int (fun _ _ => rfl))) pa_nil))))))))) (pss_one (ps_ret (pe_op op_dAdd (pv 1) (pe_lst (pa_cons (q_xvf K (pe_ix (ix_dyn K) (pv 0) pe_int (fun _ _ => rfl))) (pa_cons (q_xvf K (pe_ix (ix_dyn K) (pv 0) pe_int (fun _ _ => rfl))) pa_nil))))))))), ?_⟩
    refine g_start (σ' := some _ :: none :: []) rfl ?_
    walk_at "go"
    refine g_xvf ?_
    walk_at "go"
    refine g_fj T hp hl hE 0 (by decide) (by rfl) ?_
    walk_at "go"
    refine g_xvf ?_
    walk_at "go"
    refine g_fj T hp hl hE 1 (by decide) (by rfl) ?_
    walk_at "go"
    refine g_xvf ?_
    walk_at "go"
    refine g_fj T hp hl hE 2 (by decide) (by rfl) ?_
    walk_at "go"
    refine g_xvf ?_
    walk_at "go"
    refine g_fj T hp hl hE 3 (by decide) (by rfl) ?_
    walk_at "go"
    refine g_xvf ?_
    walk_at "go"
    refine g_fj T hp hl hE 4 (by decide) (by rfl) ?_
    walk_at "go"
    refine g_xvf ?_
    walk_at "go"
    refine g_fj T hp hl hE 5 (by decide) (by rfl) ?_
    walk_at "go"
    refine al fun p1 hp1 => ?_
    generalize hG : upd H p1 _ = H1
    obtain ⟨e1, l1⟩ := new_l (W := W) (ds := List.replicate 6 d) hG hp1 ((.cons hd (.cons hd (.cons hd (.cons hd (.cons hd (.cons hd DfAll.nil))))))) hw
    clear hG
    have f1 := e1.get List.not_mem_nil hp
    have E1 := hE.ed e1
    have d1 := hd.ed e1 no0
    have w1 := hw.ed e1
    walk_at "go"
    refine g_xvf ?_
    walk_at "go"
    refine g_fj T f1 hl E1 6 (by decide) (by rfl) ?_
    walk_at "go"
    refine g_xvf ?_
    walk_at "go"
    refine g_fj T f1 hl E1 7 (by decide) (by rfl) ?_
    walk_at "go"
    refine g_xvf ?_
    walk_at "go"
    refine g_fj T f1 hl E1 8 (by decide) (by rfl) ?_
    walk_at "go"
    refine g_xvf ?_
    walk_at "go"
    refine g_fj T f1 hl E1 9 (by decide) (by rfl) ?_
    walk_at "go"
    refine g_xvf ?_
    walk_at "go"
    refine g_fj T f1 hl E1 10 (by decide) (by rfl) ?_
    walk_at "go"
    refine g_xvf ?_
    walk_at "go"
    refine g_fj T f1 hl E1 11 (by decide) (by rfl) ?_
    walk_at "go"
    refine al fun p2 hp2 => ?_
    generalize hG : upd H1 p2 _ = H2
    obtain ⟨e2, l2⟩ := new_l (W := W) (ds := List.replicate 6 d) hG hp2 ((.cons d1 (.cons d1 (.cons d1 (.cons d1 (.cons d1 (.cons d1 DfAll.nil))))))) w1
    clear hG
    have f2 := e2.get List.not_mem_nil f1
    have E2 := E1.ed e2
    have d2 := d1.ed e2 no0
    have w2 := w1.ed e2
    have m2 := l1.ed e2 no0
    walk_at "go"
    refine g_addd m2 l2 w2 (by simp; rw [sizeLine_eq]; exact Nat.le_of_ble_eq_true rfl) fun p3 H3 hp3 e3 l3 => ?_
    have f3 := e3.get List.not_mem_nil f2
    have E3 := E2.ed e3
    have d3 := d2.ed e3 no0
    have w3 := w2.ed e3
    walk_at "go"
    refine g_xvf ?_
    walk_at "go"
    refine g_fj T f3 hl E3 12 (by decide) (by rfl) ?_
    walk_at "go"
    refine g_xvf ?_
    walk_at "go"
    refine g_fj T f3 hl E3 13 (by decide) (by rfl) ?_
    walk_at "go"
    refine g_xvf ?_
    walk_at "go"
    refine g_fj T f3 hl E3 14 (by decide) (by rfl) ?_
    walk_at "go"
    refine g_xvf ?_
    walk_at "go"
    refine g_fj T f3 hl E3 15 (by decide) (by rfl) ?_
    walk_at "go"
    refine g_xvf ?_
    walk_at "go"
    refine g_fj T f3 hl E3 16 (by decide) (by rfl) ?_
    walk_at "go"
    refine g_xvf ?_
    walk_at "go"
    refine g_fj T f3 hl E3 17 (by decide) (by rfl) ?_
    walk_at "go"
    refine al fun p4 hp4 => ?_
    generalize hG : upd H3 p4 _ = H4
    obtain ⟨e4, l4⟩ := new_l (W := W) (ds := List.replicate 6 d) hG hp4 ((.cons d3 (.cons d3 (.cons d3 (.cons d3 (.cons d3 (.cons d3 DfAll.nil))))))) w3
    clear hG
    have f4 := e4.get List.not_mem_nil f3
    have E4 := E3.ed e4
    have d4 := d3.ed e4 no0
    have w4 := w3.ed e4
    have m4 := l3.ed e4 no0
    walk_at "go"
    refine g_addd m4 l4 w4 (by simp; rw [sizeLine_eq]; exact Nat.le_of_ble_eq_true rfl) fun p5 H5 hp5 e5 l5 => ?_
    have f5 := e5.get List.not_mem_nil f4
    have E5 := E4.ed e5
    have d5 := d4.ed e5 no0
    have w5 := w4.ed e5
    walk_at "go"
    refine g_xvf ?_
    walk_at "go"
    refine g_fj T f5 hl E5 18 (by decide) (by rfl) ?_
    walk_at "go"
    refine g_xvf ?_
    walk_at "go"
    refine g_fj T f5 hl E5 19 (by decide) (by rfl) ?_
    walk_at "go"
    refine al fun p6 hp6 => ?_
    generalize hG : upd H5 p6 _ = H6
    obtain ⟨e6, l6⟩ := new_l (W := W) (ds := List.replicate 2 d) hG hp6 ((.cons d5 (.cons d5 DfAll.nil))) w5
    clear hG
    have f6 := e6.get List.not_mem_nil f5
    have E6 := E5.ed e6
    have d6 := d5.ed e6 no0
    have w6 := w5.ed e6
    have m6 := l5.ed e6 no0
    walk_at "go"
    refine g_addd m6 l6 w6 (by simp; rw [sizeLine_eq]; exact Nat.le_of_ble_eq_true rfl) fun p7 H7 hp7 e7 l7 => ?_
    have f7 := e7.get List.not_mem_nil f6
    have E7 := E6.ed e7
    have d7 := d6.ed e7 no0
    have w7 := w6.ed e7
    exact k p7 H7 (((((((Ed.refl.tr e1 no0).tr e2 no0).tr e3 no0).tr e4 no0).tr e5 no0).tr e6 no0).tr e7 no0) l7
end
section
variable {P : Program} {w : World} {K : PySem.W.Frag} {mg : Str → Option Value} {base : Heap}
theorem ok_law {f : Addr} {fd : FuncData} (F : FnP K "law" "law" s_law f fd) (T : Txt K mg) (C_law_fields : Cal P w K mg base 1 "_law_fields" ["_law_found"] (sp_law_fields K)) (C_law_kinds : Cal P w K mg base 1 "_law_kinds" ["_law_one"] (sp_law_kinds K)) (C_law_made : Cal P w K mg base 3 "_law_made" ["_law_thing"] (sp_law_made K)) (C_law_seed : Cal P w K mg base 1 "_law_seed" ["_law_script", "_law_at"] (sp_law_seed K)) (C_law_value : Cal P w K mg base 3 "_law_value" ["_law_bag"] (sp_law_value K)) (X_BadMove : XC P w K mg base 1 "BadMove" "at" (He.ga K "BadMove"))  : FnOkG P w K mg base (L2.CX P w) 4 f fd ["_law_script"] (sp_law K) := by
  refine NL.FunD.okG F sc_law (fun vs H Q E h => ?_) (fun cdv A outer s H vs Q E hG0 hr h => ?_)
  · obtain ⟨a, ns, rfl, _⟩ := h
    rfl
  · have hG : (cxOf (L2.CX P w) P w K mg base ["_law_script", "_law_at", "_law_bag", "_law_thing", "_law_found", "_law_each", "_law_k", "_law_one", "_law_raised", "e"] "law" (defScope s_law) f cdv A outer s H E).A.guards = some [] := hG0
    have nd := sc_law.nd
    have tk := takes_of (E := E) (X := (cxOf (L2.CX P w) P w K mg base ["_law_script", "_law_at", "_law_bag", "_law_thing", "_law_found", "_law_each", "_law_k", "_law_one", "_law_raised", "e"] "law" (defScope s_law) f cdv A outer s H E)) rfl rfl rfl rfl
    have po : PassesOwn (model P w) (cxOf (L2.CX P w) P w K mg base ["_law_script", "_law_at", "_law_bag", "_law_thing", "_law_found", "_law_each", "_law_k", "_law_one", "_law_raised", "e"] "law" (defScope s_law) f cdv A outer s H E).A (cxOf (L2.CX P w) P w K mg base ["_law_script", "_law_at", "_law_bag", "_law_thing", "_law_found", "_law_each", "_law_k", "_law_one", "_law_raised", "e"] "law" (defScope s_law) f cdv A outer s H E).env (cxOf (L2.CX P w) P w K mg base ["_law_script", "_law_at", "_law_bag", "_law_thing", "_law_found", "_law_each", "_law_k", "_law_one", "_law_raised", "e"] "law" (defScope s_law) f cdv A outer s H E).xe := passes_of (X := (cxOf (L2.CX P w) P w K mg base ["_law_script", "_law_at", "_law_bag", "_law_thing", "_law_found", "_law_each", "_law_k", "_law_one", "_law_raised", "e"] "law" (defScope s_law) f cdv A outer s H E)) rfl
    obtain ⟨a, ns, rfl, hS, hl, hbits, k⟩ := h
    refine ⟨_, (pss_cons (ps_for po rfl (pi_range1 rfl T.n_range (pa_cons (pe_callB (cl_max rfl) (by rfl) T.n_max bt_max (pa_cons pe_int (pa_cons (pe_callB (cl_min rfl) (by rfl) T.n_min bt_min (pa_cons pe_int (pa_cons (pe_callB (cl_len K) (by rfl) T.n_len bt_len (pa_cons (pv 0) pa_nil)) pa_nil))) pa_nil))) pa_nil)) (q_name 1 nd) (pss_cons (q_set 2 nd (q_call C_law_seed tk (hr.mono (by decide)) (pa_cons (pv 0) (pa_cons (pv 1) pa_nil)))) (pss_cons (q_set 3 nd (q_call C_law_value tk (hr.mono (by decide)) (pa_cons (pv 2) pa_nil))) (pss_cons (q_set 4 nd (q_call C_law_made tk (hr.mono (by decide)) (pa_cons (pv 3) pa_nil))) (pss_cut (ps_if (pt_cmpR (op_dNe K hr.units) (pe_lc (own := [("_law_each", 5)]) (tt := tYes) rfl nd (q_list K (q_call C_law_fields tk (hr.mono (by decide)) (pa_cons (pv 4) pa_nil))) (blkOk_by (own := [("_law_each", 5)]) (N := ["_law_script", "_law_at", "_law_bag", "_law_thing", "_law_found", "_law_each", "_law_k", "_law_one", "_law_raised", "e"]) (sc := defScope s_law) (by decide +kernel)) (fun _ _ _ _ _ => (q_name 5 nd)) (fun _ _ _ _ _ => pts_nil) (fun _ _ _ _ _ => (pe_callB (cl_reprA K hG hr.units) (by rfl) T.n_repr bt_repr (pa_cons (pv 5) pa_nil)))) (pe_op op_dMul (pe_lst (pa_cons (pe_callB (cl_reprA K hG hr.units) (by rfl) T.n_repr bt_repr (pa_cons (pv 3) pa_nil)) pa_nil)) pe_int) (nomark _)) (pss_one (ps_ret pe_bl)) pss_nil) (pss_cons (ps_for po rfl (q_enum K T.n_enumerate (pa_cons (pv 4) pa_nil)) (q_gtup K 2 (pgs_cons (q_name 6 nd) (pgs_cons (q_name 7 nd) pgs_nil))) (pss_cut (ps_if (PW.pt (pw_or (pt_cmpR (op_dNe K hr.units) (q_call C_law_kinds tk (hr.mono (by decide)) (pa_cons (pv 7) pa_nil)) (pe_lst (pa_cons (pv 6) pa_nil)) (nomark _)) (pw_or (pt_cmpR (op_dNe K hr.units) (pe_callB (cl_isV K) (by rfl) T.n_isinstance bt_isinstance (pa_cons (pv 7) (pa_cons (q_glob T.g_NowlaterError) pa_nil))) (pe_cmpR op_dLt (pv 6) pe_int (nomark _)) (nomark _)) (pw_or1 (pt_not (q_truth K (pe_callB (cl_isV K) (by rfl) T.n_isinstance bt_isinstance (pa_cons (pv 7) (pa_cons (q_bltn T.n_Exception bt_Exception) pa_nil))))))))) (pss_one (ps_ret pe_bl)) pss_nil) (pss_cut (ps_if (PW.pt (pw_or (pt_cmpR (op_dNe K hr.units) (pe_callB (cl_isV K) (by rfl) T.n_isinstance bt_isinstance (pa_cons (pv 7) (pa_cons (q_bltn T.n_ValueError bt_ValueError) pa_nil))) (pe_cmpR op_dLt (pv 6) pe_int (nomark _)) (nomark _)) (pw_or1 (pt_cmpR (op_dNe K hr.units) (pe_callB (cl_isV K) (by rfl) T.n_isinstance bt_isinstance (pa_cons (pv 7) (pa_cons (q_bltn T.n_LookupError bt_LookupError) pa_nil))) (pe_chain op_dLe op_dLt pe_int (pv 6) pe_int) (nomark _))))) (pss_one (ps_ret pe_bl)) pss_nil) (pss_one (ps_if (PW.pt (pw_or (pt_cmpR (op_dNe K hr.units) (pe_callB (cl_isV K) (by rfl) T.n_isinstance bt_isinstance (pa_cons (pv 7) (pa_cons (q_bltn T.n_RuntimeError bt_RuntimeError) pa_nil))) (pe_cmpR op_dGe (pv 6) pe_int (nomark _)) (nomark _)) (pw_or1 (q_truth K (pe_callB (cl_isVT K) (by rfl) T.n_isinstance bt_isinstance (pa_cons (pv 7) (pa_cons (pe_tup (pa_cons (q_bltn T.n_KeyError bt_KeyError) (pa_cons (q_bltn T.n_IndexError bt_IndexError) pa_nil))) pa_nil))))))) (pss_one (ps_ret pe_bl)) pss_nil))))) (pss_cons (q_set 8 nd pe_non) (pss_cut (ps_try_as (i := 9) rfl rfl nd rfl rfl ⟨rfl, by decide, Or.inl T.m_NowlaterError⟩ tk (fun W1 pn1 xe1 tk1 po1 => (pss_one (q_raise X_BadMove tk1 (hr.mono (by decide)) (pa_cons (pv 1) pa_nil)))) (fun a1 oe1 cls1 d1 pn1 hz1 hf1 => (pss_one (q_set 8 nd (pe_xfD K hz1 hf1 (pv 9)))))) (pss_one (ps_if (pt_cmpR (op_dNe K hr.units) (pv 8) (pv 1) (nomark _)) (pss_one (ps_ret pe_bl)) pss_nil)))))))))) (pss_one (ps_ret pe_bl))), ?_⟩
    refine g_start (σ' := some _ :: none :: none :: none :: none :: none :: none :: none :: none :: none :: []) rfl ?_
    walk_at "go"
    refine lp_it walk_range (fun i σ' H' => ∃ (u1 u2 u3 u4 u5 u6 u7 u8 u9 : Option V), σ' = [some (.ref a), u1, u2, u3, u4, u5, u6, u7, u8, u9] ∧ Ed [] H H') ⟨_, _, _, _, _, _, _, _, _, rfl, Ed.refl⟩ (fun _ _ _ _ _ => trivial) ?_ ?_
    · rintro i0 x σ' H1 H2 hi ⟨u1, u2, u3, u4, u5, u6, u7, u8, u9, rfl, e0⟩ ⟨rfl, rfl⟩
      walk_at "go"
      refine call_seed (sqL_same hS e0.same') (by omega) fun b H3 hb0 e1 hb => ?_
      walk_at "go"
      refine ⟨[b], b, rfl, hb, List.mem_cons_self .., (by walk_at "wl"), fun v d H4 hV e2 hb4 dv => ?_⟩
      obtain ⟨hR, hN⟩ := vd_rp hV
      have hL := vd_len hR
      walk_at "go"
      refine ⟨v, rfl, fun p as H5 e3 hp hl20 hE => ?_⟩
      have dv5 : Df [b] H5 v d := dv.ed e3 no0
      have w5 : Wl [b] H5 := (by walk_at "wl" : Wl [b] H4).ed e3
      walk_at "go"
      refine g_uncut ?_
      walk_at "go"
      refine ⟨[b], p, as, v, d, rfl, hp, hl20, hE, dv5, w5, fun q H6 e4 dq => ?_⟩
      walk_at "go"
      intro D hD
      refine lc_df (by walk_at "wipe") (U := []) (W := [b]) dq (by simp; rw [sizeLine_eq]; exact Nat.le_of_ble_eq_true rfl) hD (w5.ed e4) no0 (fun i acc => acc = (List.replicate i d.shown).map PyData.str) (fun _ => True) (fun _ _ _ _ => trivial) trivial rfl ?_ ?_
      · rintro j x d' acc H7 R N hj hacc _ e5 w6 hx yes no
        obtain rfl : d' = d := List.eq_of_mem_replicate (List.mem_of_getElem? hj)
        walk_at "go"
        refine ⟨rfl, ?_⟩
        walk_at "go"
        refine g_repr hx hR.sh hR.nd (Nat.le_trans hR.dp (by decide)) hL hN ?_
        exact yes _ _ _ Ed.refl (.str _) trivial (by rw [hacc, List.replicate_succ', List.map_append]; rfl)
      rintro acc H7 hacc _ e5 dD _
      rw [List.length_replicate] at hacc
      subst hacc
      have e57 : Ed [] H5 H7 := e4.tr e5 no0
      have dv7 := dv5.ed e57 no0
      have w7 := w5.ed e57
      walk_at "go"
      refine g_repr dv7 hR.sh hR.nd (Nat.le_trans hR.dp (by decide)) hL hN ?_
      walk_at "go"
      refine al fun l1 hl1 => ?_
      generalize hG : upd H7 l1 _ = H8
      have s8 : H8 l1 = some (.lst [V.str d.shown]) := by rw [← hG]; exact upd_same
      have e8 : Ed [] H7 H8 := by rw [← hG]; exact Ed.new hl1
      clear hG
      walk_at "go"
      refine ⟨_, s8, by decide, by decide, by rw [sizeLine_eq]; exact Nat.le_of_ble_eq_true rfl, fun l2 hl2 => ?_⟩
      generalize hG : upd H8 l2 _ = H9
      obtain ⟨e9, dl2⟩ := new_l (W := [b]) (ds := (List.replicate 20 d.shown).map PyData.str) hG hl2 (by exact DfAll.strs (List.replicate 20 d.shown)) (w7.ed e8)
      clear hG
      have e79 : Ed [] H7 H9 := e8.tr e9 no0
      walk_at "go"
      refine g_neLs (xs := List.replicate 20 d.shown) (ys := List.replicate 20 d.shown) (fun x hx => by rw [List.eq_of_mem_replicate hx]; exact hR.ok) (fun x hx => by rw [List.eq_of_mem_replicate hx]; exact hR.ok) (SqL.of (dD.ed e79 no0).strL.2) (SqL.of dl2.strL.2) ?_
      walk_at "go"
      have e59 : Ed [] H5 H9 := e57.tr e79 no0
      have e09 : Ed [] H H9 := (((e0.tr e1 no0).tr e2 (edv1 (.inr (by walk_at "fr")))).tr e3 no0).tr e59 no0
      have hp9 := e59.get List.not_mem_nil hp
      have hE9 := hE.ed e59
      have w9 : Wl [b] H9 := w7.ed e79
      refine g_iE1 (SqL.of hp9) ?_
      refine lp_it (walk_enum (xs := as.map V.ref)) (fun i σ' H' => ∃ (u5 u6 u7 u8 u9 : Option V), σ' = [some (.ref a), some (.int (0 + (i0 : Int))), some (.ref b), some v, some (.ref p), u5, u6, u7, u8, u9] ∧ Ed [] H9 H') ⟨_, _, _, _, _, rfl, Ed.refl⟩ (fun i σ' H' _ hh => by obtain ⟨_, _, _, _, _, _, ee⟩ := hh; exact SqL.of (ee.get List.not_mem_nil hp9)) ?_ ?_
      · rintro j x σ' H10 H11 hj ⟨u5, u6, u7, u8, u9, rfl, e10⟩ ⟨t, x1, y1, rfl, ht, rfl, hx1, hy1⟩
        cases hx1
        have hj20 : j < 20 := by rw [List.length_map, hl20] at hj; exact hj
        obtain ⟨c, hc, rfl⟩ := at_map hy1
        have e11 : Ed [] H10 (upd H10 t (.tup [.int (j : Nat), .ref c])) := Ed.new ht
        have s11 : (upd H10 t (.tup [.int (j : Nat), .ref c])) t = some (.tup [.int (j : Nat), .ref c]) := upd_same
        generalize (upd H10 t (.tup [.int (j : Nat), .ref c])) = H12 at e11 s11 ⊢
        have e912 : Ed [] H9 H12 := e10.tr e11 no0
        have hx12 := (hE9.ed e912) j c hc
        have w12 : Wl [b] H12 := w9.ed e912
        obtain ⟨y1, y2, y3, y4, y5, y6, y7⟩ := xk_at T.xk hj20
        have kc := kc_at T hj20
        walk_at "go"
        refine g_uncut ?_
        walk_at "go"
        refine ⟨[b], c, j, v, rfl, hj20, hx12, w12, fun q1 H13 e13 dq1 => ?_⟩
        walk_at "go"
        refine al fun l3 hl3 => ?_
        generalize hG : upd H13 l3 _ = H14
        obtain ⟨e14, dl3⟩ := new_l (W := [b]) (ds := [(j : Int)].map PyData.int) hG hl3 (by exact DfAll.ints [(j : Int)]) (w12.ed e13)
        clear hG
        refine g_neLi (xs := [(j : Int)]) (ys := [(j : Int)]) (SqL.of (dq1.ed e14 no0).intL.2) (SqL.of dl3.intL.2) ?_
        have e1214 : Ed [] H12 H14 := e13.tr e14 no0
        have e914 : Ed [] H9 H14 := e912.tr e1214 no0
        have hx14 := hx12.ed e1214 (fun _ z => absurd z List.not_mem_nil)
        walk_at "go"
        refine ⟨c, _, _, v, _, _, _, rfl, hx14, kc, .own _, y2, ?_⟩
        walk_at "go"
        rw [if_neg (ne_no (decide_eq_decide.mpr (by omega)))]
        walk_at "go"
        refine ⟨c, _, _, v, _, _, _, rfl, hx14, kc, .ty _, y3, ?_⟩
        walk_at "go"
        refine g_uncut ?_
        walk_at "go"
        refine ⟨c, _, _, v, _, _, _, rfl, hx14, kc, .ty _, y4, ?_⟩
        walk_at "go"
        rw [if_neg (ne_no (decide_eq_decide.mpr (by omega)))]
        walk_at "go"
        refine ⟨c, _, _, v, _, _, _, rfl, hx14, kc, .ty _, y5, ?_⟩
        walk_at "go"
        refine g_chI (x := (j : Int)) (fun R h => ⟨_, rfl, h⟩) ?_
        walk_at "go"
        rw [if_neg (ne_no (by rw [decide_eq_decide.mpr (by omega : (13 ≤ j) ↔ ((13 : Int) ≤ (j : Int))), decide_eq_decide.mpr (by omega : (j < 18) ↔ ((j : Int) < 18))]))]
        walk_at "go"
        refine ⟨c, _, _, v, _, _, _, rfl, hx14, kc, .ty _, y6, ?_⟩
        walk_at "go"
        rw [if_neg (ne_no (decide_eq_decide.mpr (by omega)))]
        walk_at "go"
        refine al fun l4 hl4 => ?_
        generalize hG : upd H14 l4 _ = H16
        have s16 : H16 l4 = some (.tup [V.ty "KeyError", V.ty "IndexError"]) := by rw [← hG]; exact upd_same
        have e16 : Ed [] H14 H16 := by rw [← hG]; exact Ed.new hl4
        clear hG
        have hx16 := hx14.ed e16 (fun _ z => absurd z List.not_mem_nil)
        walk_at "go"
        refine ⟨c, _, l4, _, v, _, _, false, rfl, hx16, kc, s16, .cons (.ty _) (.cons (.ty _) .nil), y7, ?_⟩
        walk_at "go"
        exact ⟨_, _, _, _, _, rfl, e914.tr e16 no0⟩
      · rintro σ' H10 ⟨u5, u6, u7, u8, u9, rfl, e10⟩
        walk_at "go"
        refine g_uncut ?_
        walk_at "go"
        intro dx hdx
        refine ⟨true, T.xm_BadMove_NowlaterError, fun _ ax hax => ?_, fun z => Bool.noConfusion z⟩
        generalize hG : upd H10 dx _ = H15
        have s15 : H15 dx = some (.xd [("at", .int (0 + (i0 : Int)))]) := by rw [← hG]; exact upd_same
        have e15 : Ed [] H10 H15 := by rw [← hG]; exact Ed.new hdx
        clear hG
        walk_at "go"
        refine ⟨_, rfl, rfl, _, dx, _, _, rfl, T.xf_BadMove, T.xn_BadMove, rfl, s15, rfl, ?_⟩
        walk_at "go"
        exact ⟨_, _, _, _, _, _, _, _, _, rfl, (e09.tr e10 no0).tr e15 no0⟩
    · rintro σ' H1 ⟨u1, u2, u3, u4, u5, u6, u7, u8, u9, rfl, e0⟩
      walk_at "go"
      exact k _
end
theorem facts {P : Program} {w : World} {K : PySem.W.Frag} {h : Heap} {mg : Str → Option Value} {f : Addr} (X : K.In h) (G : h.Ns mainGlobals mg) (hfa : mg ("law" : Str) = some (.ref f)) (S : SaysN fns ex K) :
    ∃ fd : FuncData, (∀ (s : Shared) (v : Value), BindsTo s fd ⟨[v], []⟩ [("_law_script", v)]) ∧ ∀ base : Heap, K.In base → base.Ns mainGlobals mg → FnOkG P w K mg base (L2.CX P w) 4 f fd ["_law_script"] (sp_law K) := by
  have c3 : ((fxB fxs K && (fyB fys K && fzB fzs K)) && (xkB K)) = true := S.more
  rw [Bool.and_eq_true] at c3
  obtain ⟨c3, cm⟩ := c3
  have c1 : (fxB fxs K && (fyB fys K && fzB fzs K)) = true := c3
  have c0 : (fxB fxs K && (fyB fys K && fzB fzs K)) = true := c1
  rw [Bool.and_eq_true, Bool.and_eq_true] at c0
  obtain ⟨c, cy, cz⟩ := c0
  obtain ⟨fd_BadSum___init__, F_BadSum___init__⟩ := S.def_ 0 (d := d_BadSum___init__) rfl
  obtain ⟨fd_BadCondition___init__, F_BadCondition___init__⟩ := S.def_ 1 (d := d_BadCondition___init__) rfl
  obtain ⟨fd_BadProgram___init__, F_BadProgram___init__⟩ := S.def_ 2 (d := d_BadProgram___init__) rfl
  obtain ⟨fd_BadMoment___init__, F_BadMoment___init__⟩ := S.def_ 3 (d := d_BadMoment___init__) rfl
  obtain ⟨fd_BadArgument___init__, F_BadArgument___init__⟩ := S.def_ 4 (d := d_BadArgument___init__) rfl
  obtain ⟨fd_BadAnswer___init__, F_BadAnswer___init__⟩ := S.def_ 5 (d := d_BadAnswer___init__) rfl
  obtain ⟨fd_Unlike___init__, F_Unlike___init__⟩ := S.def_ 6 (d := d_Unlike___init__) rfl
  obtain ⟨fd_BadWorld___init__, F_BadWorld___init__⟩ := S.def_ 7 (d := d_BadWorld___init__) rfl
  obtain ⟨fd_BadMove___init__, F_BadMove___init__⟩ := S.def_ 8 (d := d_BadMove___init__) rfl
  obtain ⟨fd_BadSchedule___init__, F_BadSchedule___init__⟩ := S.def_ 9 (d := d_BadSchedule___init__) rfl
  obtain ⟨fd_BadLine___init__, F_BadLine___init__⟩ := S.def_ 10 (d := d_BadLine___init__) rfl
  obtain ⟨fd_BadReport___init__, F_BadReport___init__⟩ := S.def_ 11 (d := d_BadReport___init__) rfl
  obtain ⟨fd_TooMany___init__, F_TooMany___init__⟩ := S.def_ 12 (d := d_TooMany___init__) rfl
  obtain ⟨fd_UnknownRequest___init__, F_UnknownRequest___init__⟩ := S.def_ 13 (d := d_UnknownRequest___init__) rfl
  obtain ⟨fd_UnknownEvent___init__, F_UnknownEvent___init__⟩ := S.def_ 14 (d := d_UnknownEvent___init__) rfl
  obtain ⟨fd_UnknownState___init__, F_UnknownState___init__⟩ := S.def_ 15 (d := d_UnknownState___init__) rfl
  obtain ⟨fd_NoReport___init__, F_NoReport___init__⟩ := S.def_ 16 (d := d_NoReport___init__) rfl
  obtain ⟨fd_NotMovable___init__, F_NotMovable___init__⟩ := S.def_ 17 (d := d_NotMovable___init__) rfl
  obtain ⟨fd_NotIdle___init__, F_NotIdle___init__⟩ := S.def_ 18 (d := d_NotIdle___init__) rfl
  obtain ⟨fd_ScopeOver___init__, F_ScopeOver___init__⟩ := S.def_ 19 (d := d_ScopeOver___init__) rfl
  obtain ⟨fd_law_seed, F_law_seed⟩ := S.def_ 20 (d := d_law_seed) rfl
  obtain ⟨fd_law_take, F_law_take⟩ := S.def_ 21 (d := d_law_take) rfl
  obtain ⟨fd_law_of, F_law_of⟩ := S.def_ 22 (d := d_law_of) rfl
  obtain ⟨fd_law_value, F_law_value⟩ := S.def_ 23 (d := d_law_value) rfl
  obtain ⟨fd_law_made, F_law_made⟩ := S.def_ 24 (d := d_law_made) rfl
  obtain ⟨fd_law_kinds, F_law_kinds⟩ := S.def_ 25 (d := d_law_kinds) rfl
  obtain ⟨fd_law_fields, F_law_fields⟩ := S.def_ 26 (d := d_law_fields) rfl
  obtain ⟨fd_law, F_law⟩ := S.def_ 27 (d := d_law) rfl
  have T : Txt K mg := ⟨fx_free X G c 11, fx_free X G c 12, fx_free X G c 13, fx_free X G c 14, fx_free X G c 19, fx_free X G c 26, fx_free X G c 34, fx_free X G c 35, fx_free X G c 36, fx_free X G c 37, fx_free X G c 38, fx_free X G c 39, fx_free X G c 40, fx_free X G c 41, fx_free X G c 42, ⟨_, fx_glo X G c 0, rfl⟩, fx_glo X G c 0, ⟨_, fx_glo X G c 1, rfl⟩, fx_glo X G c 1, ⟨_, fx_glo X G c 2, rfl⟩, fx_glo X G c 2, ⟨_, fx_glo X G c 3, rfl⟩, fx_glo X G c 3, ⟨_, fx_glo X G c 4, rfl⟩, fx_glo X G c 4, ⟨_, fx_glo X G c 5, rfl⟩, fx_glo X G c 5, ⟨_, fx_glo X G c 6, rfl⟩, fx_glo X G c 6, ⟨_, fx_glo X G c 7, rfl⟩, fx_glo X G c 7, ⟨_, fx_glo X G c 8, rfl⟩, fx_glo X G c 8, ⟨_, fx_glo X G c 9, rfl⟩, fx_glo X G c 9, ⟨_, fx_glo X G c 10, rfl⟩, fx_glo X G c 10, ⟨_, fx_glo X G c 15, rfl⟩, fx_glo X G c 15, ⟨_, fx_glo X G c 16, rfl⟩, fx_glo X G c 16, ⟨_, fx_glo X G c 17, rfl⟩, fx_glo X G c 17, ⟨_, fx_glo X G c 18, rfl⟩, fx_glo X G c 18, ⟨_, fx_glo X G c 20, rfl⟩, fx_glo X G c 20, ⟨_, fx_glo X G c 21, rfl⟩, fx_glo X G c 21, ⟨_, fx_glo X G c 22, rfl⟩, fx_glo X G c 22, ⟨_, fx_glo X G c 23, rfl⟩, fx_glo X G c 23, ⟨_, fx_glo X G c 24, rfl⟩, fx_glo X G c 24, ⟨_, fx_glo X G c 25, rfl⟩, fx_glo X G c 25, cm, fx_exc c 104, fx_xf c 105, fx_noat c 45, fx_exc c 106, fx_xf c 107, fx_noat c 48, fx_exc c 108, fx_xf c 109, fx_noat c 51, fx_exc c 110, fx_xf c 111, fx_noat c 54, fx_exc c 112, fx_xf c 113, fx_noat c 57, fx_exc c 114, fx_xf c 115, fx_noat c 60, fx_exc c 116, fx_xf c 117, fx_noat c 63, fx_exc c 118, fx_xf c 119, fx_noat c 66, fx_exc c 120, fx_xf c 121, fx_noat c 69, fx_exc c 122, fx_xf c 123, fx_noat c 72, fx_exc c 124, fx_xf c 125, fx_noat c 75, fx_exc c 126, fx_xf c 127, fx_noat c 78, fx_exc c 128, fx_xf c 129, fx_noat c 81, fx_exc c 130, fx_xf c 131, fx_noat c 84, fx_exc c 132, fx_xf c 133, fx_noat c 87, fx_exc c 134, fx_xf c 135, fx_noat c 90, fx_exc c 136, fx_xf c 137, fx_noat c 93, fx_exc c 138, fx_xf c 139, fx_noat c 96, fx_exc c 140, fx_xf c 141, fx_noat c 99, fx_exc c 142, fx_xf c 143, fx_noat c 102, fx_exm c 144⟩
  have e := hfa.symm.trans (fx_glo X G c 103)
  cases e
  have b_BadSum___init__ := FunD.bindsN (ps := ["self", "at"]) F_BadSum___init__ fun _ _ _ _ _ _ us hl => match us, hl with | [_, _], _ => rfl
  have b_BadCondition___init__ := FunD.bindsN (ps := ["self", "at"]) F_BadCondition___init__ fun _ _ _ _ _ _ us hl => match us, hl with | [_, _], _ => rfl
  have b_BadProgram___init__ := FunD.bindsN (ps := ["self", "at"]) F_BadProgram___init__ fun _ _ _ _ _ _ us hl => match us, hl with | [_, _], _ => rfl
  have b_BadMoment___init__ := FunD.bindsN (ps := ["self", "moment"]) F_BadMoment___init__ fun _ _ _ _ _ _ us hl => match us, hl with | [_, _], _ => rfl
  have b_BadArgument___init__ := FunD.bindsN (ps := ["self", "argument"]) F_BadArgument___init__ fun _ _ _ _ _ _ us hl => match us, hl with | [_, _], _ => rfl
  have b_BadAnswer___init__ := FunD.bindsN (ps := ["self", "answer"]) F_BadAnswer___init__ fun _ _ _ _ _ _ us hl => match us, hl with | [_, _], _ => rfl
  have b_Unlike___init__ := FunD.bindsN (ps := ["self", "what"]) F_Unlike___init__ fun _ _ _ _ _ _ us hl => match us, hl with | [_, _], _ => rfl
  have b_BadWorld___init__ := FunD.bindsN (ps := ["self", "thing"]) F_BadWorld___init__ fun _ _ _ _ _ _ us hl => match us, hl with | [_, _], _ => rfl
  have b_BadMove___init__ := FunD.bindsN (ps := ["self", "at"]) F_BadMove___init__ fun _ _ _ _ _ _ us hl => match us, hl with | [_, _], _ => rfl
  have b_BadSchedule___init__ := FunD.bindsN (ps := ["self", "at"]) F_BadSchedule___init__ fun _ _ _ _ _ _ us hl => match us, hl with | [_, _], _ => rfl
  have b_BadLine___init__ := FunD.bindsN (ps := ["self", "at"]) F_BadLine___init__ fun _ _ _ _ _ _ us hl => match us, hl with | [_, _], _ => rfl
  have b_BadReport___init__ := FunD.bindsN (ps := ["self", "at"]) F_BadReport___init__ fun _ _ _ _ _ _ us hl => match us, hl with | [_, _], _ => rfl
  have b_TooMany___init__ := FunD.bindsN (ps := ["self", "what"]) F_TooMany___init__ fun _ _ _ _ _ _ us hl => match us, hl with | [_, _], _ => rfl
  have b_UnknownRequest___init__ := FunD.bindsN (ps := ["self", "name"]) F_UnknownRequest___init__ fun _ _ _ _ _ _ us hl => match us, hl with | [_, _], _ => rfl
  have b_UnknownEvent___init__ := FunD.bindsN (ps := ["self", "name"]) F_UnknownEvent___init__ fun _ _ _ _ _ _ us hl => match us, hl with | [_, _], _ => rfl
  have b_UnknownState___init__ := FunD.bindsN (ps := ["self", "state"]) F_UnknownState___init__ fun _ _ _ _ _ _ us hl => match us, hl with | [_, _], _ => rfl
  have b_NoReport___init__ := FunD.bindsN (ps := ["self", "at"]) F_NoReport___init__ fun _ _ _ _ _ _ us hl => match us, hl with | [_, _], _ => rfl
  have b_NotMovable___init__ := FunD.bindsN (ps := ["self", "at"]) F_NotMovable___init__ fun _ _ _ _ _ _ us hl => match us, hl with | [_, _], _ => rfl
  have b_NotIdle___init__ := FunD.bindsN (ps := ["self", "what"]) F_NotIdle___init__ fun _ _ _ _ _ _ us hl => match us, hl with | [_, _], _ => rfl
  have b_ScopeOver___init__ := FunD.bindsN (ps := ["self", "what"]) F_ScopeOver___init__ fun _ _ _ _ _ _ us hl => match us, hl with | [_, _], _ => rfl
  have b_law_seed := FunD.bindsN (ps := ["_law_script", "_law_at"]) F_law_seed fun _ _ _ _ _ _ us hl => match us, hl with | [_, _], _ => rfl
  have b_law_take := FunD.bindsN (ps := ["_law_bag", "_law_many"]) F_law_take fun _ _ _ _ _ _ us hl => match us, hl with | [_, _], _ => rfl
  have b_law_of := FunD.bindsN (ps := ["_law_bag", "_law_some"]) F_law_of fun _ _ _ _ _ _ us hl => match us, hl with | [_, _], _ => rfl
  have b_law_value := FunD.bindsN (ps := ["_law_bag"]) F_law_value fun _ _ _ _ _ _ us hl => match us, hl with | [_], _ => rfl
  have b_law_made := FunD.bindsN (ps := ["_law_thing"]) F_law_made fun _ _ _ _ _ _ us hl => match us, hl with | [_], _ => rfl
  have b_law_kinds := FunD.bindsN (ps := ["_law_one"]) F_law_kinds fun _ _ _ _ _ _ us hl => match us, hl with | [_], _ => rfl
  have b_law_fields := FunD.bindsN (ps := ["_law_found"]) F_law_fields fun _ _ _ _ _ _ us hl => match us, hl with | [_], _ => rfl
  have b_law := FunD.bindsN (ps := ["_law_script"]) F_law fun _ _ _ _ _ _ us hl => match us, hl with | [_], _ => rfl
  have bA := FunD.bindsA (ps := ["_law_script"]) F_law fun _ _ _ _ _ _ us hl => match us, hl with | [_], _ => rfl
  refine ⟨fd_law, fun s v => bA s [v] rfl, fun base _ _ => ?_⟩
  have X_BadSum : XC P w K mg base 1 "BadSum" "at" (He.ga K "BadSum") := ⟨fx_glo X G c 9, fx_oex c 43, fx_noat c 45, _, fd_BadSum___init__, _, (fx_fnI c 44).1, (fx_fnI c 44).2, b_BadSum___init__, ok_BadSum___init__ F_BadSum___init__ (fx_oex c 43) (fx_noat c 45)⟩
  have X_BadCondition : XC P w K mg base 1 "BadCondition" "at" (He.ga K "BadCondition") := ⟨fx_glo X G c 2, fx_oex c 46, fx_noat c 48, _, fd_BadCondition___init__, _, (fx_fnI c 47).1, (fx_fnI c 47).2, b_BadCondition___init__, ok_BadCondition___init__ F_BadCondition___init__ (fx_oex c 46) (fx_noat c 48)⟩
  have X_BadProgram : XC P w K mg base 1 "BadProgram" "at" (He.ga K "BadProgram") := ⟨fx_glo X G c 6, fx_oex c 49, fx_noat c 51, _, fd_BadProgram___init__, _, (fx_fnI c 50).1, (fx_fnI c 50).2, b_BadProgram___init__, ok_BadProgram___init__ F_BadProgram___init__ (fx_oex c 49) (fx_noat c 51)⟩
  have X_BadMoment : XC P w K mg base 1 "BadMoment" "moment" (He.ga K "BadMoment") := ⟨fx_glo X G c 4, fx_oex c 52, fx_noat c 54, _, fd_BadMoment___init__, _, (fx_fnI c 53).1, (fx_fnI c 53).2, b_BadMoment___init__, ok_BadMoment___init__ F_BadMoment___init__ (fx_oex c 52) (fx_noat c 54)⟩
  have X_BadArgument : XC P w K mg base 1 "BadArgument" "argument" (He.ga K "BadArgument") := ⟨fx_glo X G c 1, fx_oex c 55, fx_noat c 57, _, fd_BadArgument___init__, _, (fx_fnI c 56).1, (fx_fnI c 56).2, b_BadArgument___init__, ok_BadArgument___init__ F_BadArgument___init__ (fx_oex c 55) (fx_noat c 57)⟩
  have X_BadAnswer : XC P w K mg base 1 "BadAnswer" "answer" (He.ga K "BadAnswer") := ⟨fx_glo X G c 0, fx_oex c 58, fx_noat c 60, _, fd_BadAnswer___init__, _, (fx_fnI c 59).1, (fx_fnI c 59).2, b_BadAnswer___init__, ok_BadAnswer___init__ F_BadAnswer___init__ (fx_oex c 58) (fx_noat c 60)⟩
  have X_Unlike : XC P w K mg base 1 "Unlike" "what" (He.ga K "Unlike") := ⟨fx_glo X G c 25, fx_oex c 61, fx_noat c 63, _, fd_Unlike___init__, _, (fx_fnI c 62).1, (fx_fnI c 62).2, b_Unlike___init__, ok_Unlike___init__ F_Unlike___init__ (fx_oex c 61) (fx_noat c 63)⟩
  have X_BadWorld : XC P w K mg base 1 "BadWorld" "thing" (He.ga K "BadWorld") := ⟨fx_glo X G c 10, fx_oex c 64, fx_noat c 66, _, fd_BadWorld___init__, _, (fx_fnI c 65).1, (fx_fnI c 65).2, b_BadWorld___init__, ok_BadWorld___init__ F_BadWorld___init__ (fx_oex c 64) (fx_noat c 66)⟩
  have X_BadMove : XC P w K mg base 1 "BadMove" "at" (He.ga K "BadMove") := ⟨fx_glo X G c 5, fx_oex c 67, fx_noat c 69, _, fd_BadMove___init__, _, (fx_fnI c 68).1, (fx_fnI c 68).2, b_BadMove___init__, ok_BadMove___init__ F_BadMove___init__ (fx_oex c 67) (fx_noat c 69)⟩
  have X_BadSchedule : XC P w K mg base 1 "BadSchedule" "at" (He.ga K "BadSchedule") := ⟨fx_glo X G c 8, fx_oex c 70, fx_noat c 72, _, fd_BadSchedule___init__, _, (fx_fnI c 71).1, (fx_fnI c 71).2, b_BadSchedule___init__, ok_BadSchedule___init__ F_BadSchedule___init__ (fx_oex c 70) (fx_noat c 72)⟩
  have X_BadLine : XC P w K mg base 1 "BadLine" "at" (He.ga K "BadLine") := ⟨fx_glo X G c 3, fx_oex c 73, fx_noat c 75, _, fd_BadLine___init__, _, (fx_fnI c 74).1, (fx_fnI c 74).2, b_BadLine___init__, ok_BadLine___init__ F_BadLine___init__ (fx_oex c 73) (fx_noat c 75)⟩
  have X_BadReport : XC P w K mg base 1 "BadReport" "at" (He.ga K "BadReport") := ⟨fx_glo X G c 7, fx_oex c 76, fx_noat c 78, _, fd_BadReport___init__, _, (fx_fnI c 77).1, (fx_fnI c 77).2, b_BadReport___init__, ok_BadReport___init__ F_BadReport___init__ (fx_oex c 76) (fx_noat c 78)⟩
  have X_TooMany : XC P w K mg base 1 "TooMany" "what" (He.ga K "TooMany") := ⟨fx_glo X G c 21, fx_oex c 79, fx_noat c 81, _, fd_TooMany___init__, _, (fx_fnI c 80).1, (fx_fnI c 80).2, b_TooMany___init__, ok_TooMany___init__ F_TooMany___init__ (fx_oex c 79) (fx_noat c 81)⟩
  have X_UnknownRequest : XC P w K mg base 1 "UnknownRequest" "name" (He.ga K "UnknownRequest") := ⟨fx_glo X G c 23, fx_oex c 82, fx_noat c 84, _, fd_UnknownRequest___init__, _, (fx_fnI c 83).1, (fx_fnI c 83).2, b_UnknownRequest___init__, ok_UnknownRequest___init__ F_UnknownRequest___init__ (fx_oex c 82) (fx_noat c 84)⟩
  have X_UnknownEvent : XC P w K mg base 1 "UnknownEvent" "name" (He.ga K "UnknownEvent") := ⟨fx_glo X G c 22, fx_oex c 85, fx_noat c 87, _, fd_UnknownEvent___init__, _, (fx_fnI c 86).1, (fx_fnI c 86).2, b_UnknownEvent___init__, ok_UnknownEvent___init__ F_UnknownEvent___init__ (fx_oex c 85) (fx_noat c 87)⟩
  have X_UnknownState : XC P w K mg base 1 "UnknownState" "state" (He.ga K "UnknownState") := ⟨fx_glo X G c 24, fx_oex c 88, fx_noat c 90, _, fd_UnknownState___init__, _, (fx_fnI c 89).1, (fx_fnI c 89).2, b_UnknownState___init__, ok_UnknownState___init__ F_UnknownState___init__ (fx_oex c 88) (fx_noat c 90)⟩
  have X_NoReport : XC P w K mg base 1 "NoReport" "at" (He.ga K "NoReport") := ⟨fx_glo X G c 15, fx_oex c 91, fx_noat c 93, _, fd_NoReport___init__, _, (fx_fnI c 92).1, (fx_fnI c 92).2, b_NoReport___init__, ok_NoReport___init__ F_NoReport___init__ (fx_oex c 91) (fx_noat c 93)⟩
  have X_NotMovable : XC P w K mg base 1 "NotMovable" "at" (He.ga K "NotMovable") := ⟨fx_glo X G c 17, fx_oex c 94, fx_noat c 96, _, fd_NotMovable___init__, _, (fx_fnI c 95).1, (fx_fnI c 95).2, b_NotMovable___init__, ok_NotMovable___init__ F_NotMovable___init__ (fx_oex c 94) (fx_noat c 96)⟩
  have X_NotIdle : XC P w K mg base 1 "NotIdle" "what" (He.ga K "NotIdle") := ⟨fx_glo X G c 16, fx_oex c 97, fx_noat c 99, _, fd_NotIdle___init__, _, (fx_fnI c 98).1, (fx_fnI c 98).2, b_NotIdle___init__, ok_NotIdle___init__ F_NotIdle___init__ (fx_oex c 97) (fx_noat c 99)⟩
  have X_ScopeOver : XC P w K mg base 1 "ScopeOver" "what" (He.ga K "ScopeOver") := ⟨fx_glo X G c 20, fx_oex c 100, fx_noat c 102, _, fd_ScopeOver___init__, _, (fx_fnI c 101).1, (fx_fnI c 101).2, b_ScopeOver___init__, ok_ScopeOver___init__ F_ScopeOver___init__ (fx_oex c 100) (fx_noat c 102)⟩
  have C_law_seed : Cal P w K mg base 1 "_law_seed" ["_law_script", "_law_at"] (sp_law_seed K) := ⟨_, fd_law_seed, fx_glo X G c 31, F_law_seed.kp, b_law_seed, ok_law_seed (P := P) (w := w) (base := base) F_law_seed T ⟩
  have C_law_take : Cal P w K mg base 1 "_law_take" ["_law_bag", "_law_many"] (sp_law_take K) := ⟨_, fd_law_take, fx_glo X G c 32, F_law_take.kp, b_law_take, ok_law_take (P := P) (w := w) (base := base) F_law_take T ⟩
  have C_law_kinds : Cal P w K mg base 1 "_law_kinds" ["_law_one"] (sp_law_kinds K) := ⟨_, fd_law_kinds, fx_glo X G c 28, F_law_kinds.kp, b_law_kinds, ok_law_kinds (P := P) (w := w) (base := base) F_law_kinds T ⟩
  have C_law_fields : Cal P w K mg base 1 "_law_fields" ["_law_found"] (sp_law_fields K) := ⟨_, fd_law_fields, fx_glo X G c 27, F_law_fields.kp, b_law_fields, ok_law_fields (P := P) (w := w) (base := base) F_law_fields T ⟩
  have C_law_of : Cal P w K mg base 2 "_law_of" ["_law_bag", "_law_some"] (sp_law_of K) := ⟨_, fd_law_of, fx_glo X G c 30, F_law_of.kp, b_law_of, ok_law_of (P := P) (w := w) (base := base) F_law_of T C_law_take⟩
  have C_law_value : Cal P w K mg base 3 "_law_value" ["_law_bag"] (sp_law_value K) := ⟨_, fd_law_value, fx_glo X G c 33, F_law_value.kp, b_law_value, ok_law_value (P := P) (w := w) (base := base) F_law_value T C_law_of C_law_take⟩
  have C_law_made : Cal P w K mg base 3 "_law_made" ["_law_thing"] (sp_law_made K) := ⟨_, fd_law_made, fx_glo X G c 29, F_law_made.kp, b_law_made, ok_law_made (P := P) (w := w) (base := base) F_law_made T X_BadAnswer X_BadArgument X_BadCondition X_BadLine X_BadMoment X_BadMove X_BadProgram X_BadReport X_BadSchedule X_BadSum X_BadWorld X_NoReport X_NotIdle X_NotMovable X_ScopeOver X_TooMany X_UnknownEvent X_UnknownRequest X_UnknownState X_Unlike⟩
  exact ok_law (P := P) (w := w) (base := base) F_law T C_law_fields C_law_kinds C_law_made C_law_seed C_law_value X_BadMove
end NL
open PySem PySem.W PySem.Calls PyProof.Rows
set_option maxHeartbeats 0 in
theorem PySem.Challenge.cw_nowlater_k12_errors_made_holds : PySem.Challenge.rw_nowlater_k12_errors_made.Holds := by
  refine NL.early ?hc
  case hc =>
    refine NL.walkG (l := PySem.Challenge.rw_nowlater_k12_errors_made) (n := 63) (k := 4) (x := "_law_script") (CX := fun w => L2.CX (PySem.Challenge.rw_nowlater_k12_errors_made).prog w) rfl (by decide) (by kernel_rfl) ⟨rfl, by decide, by decide⟩ ?F NL.hCX
    intro w mg fa h Y G hmg0
    obtain ⟨K, KX, S⟩ := Y
    have hmg : mg ("law" : PySem.Str) = some (.ref fa) := by
      have e : (HandSHeadRun.topDef NL.RR.prog 30).name = ("law" : PySem.Str) := by kernel_rfl
      rw [← e]
      exact hmg0
    obtain ⟨fd, hb, hF⟩ := NL.facts (P := (PySem.Challenge.rw_nowlater_k12_errors_made).prog) (w := w) KX G hmg S
    exact ⟨K, KX, fd, NL.sp_law K, hb, fun H a ns hl hbits hS => ⟨a, ns, rfl, hS, hl, hbits, fun _ => rfl⟩, fun base h1 h2 => hF base h1 h2⟩
#print axioms PySem.Challenge.cw_nowlater_k12_errors_made_holds
