import PyProof.Rows.All
import Wide.All
import OpenK.AllK
import Wide.FinOn
import HandS.ForMost
import HandS.ForExc
import HandS.Wide
import HandS.TupAny
import HandS.FStr
import HandS.Defaults
import HandS.CallSlots
import HandS.Walk
import HandS.HeadHook1
import HandS.HeadHook2
import KE.KSuper
import KE.KExcSuper
import HandS.Exc
import HandS.ExcInit
import HandS.ExcSuper
import HandS.ExcIs
import KE.KIsAll
import HandS.ExcField
import HandS.TryMany
import HandS.Words
import HandS.HeadHook3
import HandS.HeadHook4
import HandS.Style
import HandS.RaiseMore
import KE.KStateDown
import HandS.Head0
import HandS.Head1
import HandS.Head2
import HandS.HeadEnd
import PySem.Challenge.RW_edgejumps_k18_errors
set_option Elab.async false
set_option linter.all false
set_option maxRecDepth 100000
set_option maxHeartbeats 0
/-! Readings that reduce by themselves: the values' forms are looked at by match. -/
namespace Eb
open PySem PySem.Spec PyProof.Rows L2
/-! ### weaker readings -/
section
variable {X : Cx}
theorem PE.imp {e : Expr} {t t' : TE} (h : PE X e t) (k : ∀ σ H Q, t' σ H Q → t σ H Q) : PE X e t' := ⟨fun pins s σ H Q I q => h.run pins s σ H Q I (k σ H Q q)⟩
theorem PT.imp {e : Expr} {t t' : TT} (h : PT X e t) (k : ∀ σ H Q, t' σ H Q → t σ H Q) : PT X e t' := ⟨fun pins s σ H Q I q => h.run pins s σ H Q I (k σ H Q q)⟩
theorem PS.imp {e : Stmt} {t t' : TS} (h : PS X e t) (k : ∀ D σ H, t' D σ H → t D σ H) : PS X e t' := ⟨fun pins s σ H D I q => h.run pins s σ H D I (k D σ H q)⟩
theorem OpR.imp {f : Value → Value → Sem Value} {r r' : R2} (h : OpR X f r) (k : ∀ x y H Q, r' x y H Q → r x y H Q) : OpR X f r' := fun pins s σ H x y v u Q I rx ry q => h pins s σ H x y v u Q I rx ry (k x y H Q q)
theorem CallR.imp {f : Value} {r r' : List V → Hp → VK → Prop} (h : CallR X f r) (k : ∀ xs H Q, r' xs H Q → r xs H Q) : CallR X f r' := fun pins s σ H xs us Q I rx q => h pins s σ H xs us Q I rx (k xs H Q q)
theorem MtR.imp {id : String} {r r' : V → List V → Hp → VK → Prop} (h : MtR X id r) (k : ∀ x xs H Q, r' x xs H Q → r x xs H Q) : MtR X id r' := fun pins s σ H x xs v us Q I rx rxs q => h pins s σ H x xs v us Q I rx rxs (k x xs H Q q)
theorem IxR.imp {r r' : R2} (h : IxR X r) (k : ∀ x y H Q, r' x y H Q → r x y H Q) : IxR X r' := fun value slice pins s σ H x y v u Q I rx ry q hs => h value slice pins s σ H x y v u Q I rx ry (k x y H Q q) hs
end
/-! ### names, branches -/
def yVar (i : Nat) : TE := fun σ H Q => match σ[i]? with
  | some (some v) => Q v H
  | _ => False
/-- a branch; whnf stops here -/
@[irreducible] def yBr (b : Bool) (A B : Prop) : Prop := if b = true then A else B
theorem yBr_def {b : Bool} {A B : Prop} : yBr b A B = (if b = true then A else B) := by unfold yBr; rfl
theorem br {b : Bool} {A B : Prop} (h1 : b = true → A) (h2 : b = false → B) : yBr b A B := by
  rw [yBr_def]
  cases b with
  | true => exact h1 rfl
  | false => exact h2 rfl
theorem brT {b : Bool} {A B : Prop} (e : b = true) (h : A) : yBr b A B := br (fun _ => h) fun z => by rw [e] at z; cases z
theorem brF {b : Bool} {A B : Prop} (e : b = false) (h : B) : yBr b A B := br (fun z => by rw [e] at z; cases z) fun _ => h
/-- by a proposition -/
theorem brD {p : Prop} [Decidable p] {A B : Prop} (h1 : p → A) (h2 : ¬ p → B) : yBr (decide p) A B := br (fun z => h1 (of_decide_eq_true z)) fun z => h2 (of_decide_eq_false z)
theorem brN {p : Prop} [Decidable p] {A B : Prop} (h1 : ¬ p → A) (h2 : p → B) : yBr (!decide p) A B := br
  (fun z => h1 (by simpa using z)) fun z => h2 (by simpa using z)
theorem brDT {p : Prop} [Decidable p] {A B : Prop} (e : p) (h : A) : yBr (decide p) A B := brT (decide_eq_true e) h
theorem brDF {p : Prop} [Decidable p] {A B : Prop} (e : ¬ p) (h : B) : yBr (decide p) A B := brF (decide_eq_false e) h
/-! ### operators by values -/
def zAdd : R2 := fun x y H Q => match x, y with
  | .int i, .int j => Q (.int (i + j)) H
  | .str a, .str b => a.length + b.length ≤ sizeLine ∧ Q (.str (a ++ b)) H
  | _, _ => False
def zSub : R2 := fun x y H Q => match x, y with
  | .int i, .int j => Q (.int (i - j)) H
  | _, _ => False
def zMul : R2 := fun x y H Q => match x, y with
  | .int i, .int j => CMul i j ∧ Q (.int (i * j)) H
  | _, _ => False
def zDiv : R2 := fun x y H Q => match x, y with
  | .int i, .int j => CDivW i j ∧ Q (.int (i / j)) H
  | _, _ => False
def zMod : R2 := fun x y H Q => match x, y with
  | .int i, .int j => 0 < j ∧ Q (.int (i % j)) H
  | _, _ => False
def zPow : R2 := fun x y H Q => match x, y with
  | .int i, .int j => CPow i j ∧ Q (.int (i ^ j.toNat)) H
  | _, _ => False
def zShl : R2 := fun x y H Q => match x, y with
  | .int i, .int j => CPow i j ∧ Q (.int (i * 2 ^ j.toNat)) H
  | _, _ => False
def zShr : R2 := fun x y H Q => match x, y with
  | .int i, .int j => 0 ≤ j ∧ Q (.int (i / 2 ^ j.toNat)) H
  | _, _ => False
def zAnd : R2 := fun x y H Q => match x, y with
  | .int i, .int j => Q (.int (Builtin.bitAnd i j)) H
  | _, _ => False
/-- xs + ys of lists -/
def zCatL : R2 := fun x y H Q => match x, y with
  | .ref a, .ref b => ∃ xs zs, H a = some (.lst xs) ∧ H b = some (.lst zs) ∧ xs.length + zs.length ≤ sizeLine ∧ ∀ p, H p = none → Q (.ref p) (upd H p (.lst (xs ++ zs)))
  | _, _ => False
/-- t + u of tuples -/
def zCatT (K : PySem.W.Frag) : R2 := fun x y H Q => match x, y with
  | .ref a, .ref b => ∃ xs ys, SqT K H a xs ∧ SqT K H b ys ∧ xs.length + ys.length ≤ sizeLine ∧
    (xs = [] → Q (.ref b) H) ∧ (xs ≠ [] → ys = [] → Q (.ref a) H) ∧ (xs ≠ [] → ys ≠ [] → ∀ p, H p = none → Q (.ref p) (upd H p (.tup (xs ++ ys))))
  | _, _ => False
/-- xs * k -/
def zRepL : R2 := fun x y H Q => match x, y with
  | .ref l, .int k => ∃ xs, H l = some (.lst xs) ∧ -(2 ^ 63) ≤ k ∧ k < 2 ^ 63 ∧ xs.length * k.toNat ≤ sizeLine ∧ ∀ p, H p = none → Q (.ref p) (upd H p (.lst (List.replicate k.toNat xs).flatten))
  | _, _ => False
/-- == of scalars -/
def sEq : V → V → Option Bool
  | .int i, .int j => some (decide (i = j))
  | .str i, .str j => some (decide (i = j))
  | .bl i, .bl j => some (decide (i = j))
  | .non, .non => some true
  | .non, .int _ => some false
  | .int _, .non => some false
  | .non, .bl _ => some false
  | .bl _, .non => some false
  | .non, .str _ => some false
  | .str _, .non => some false
  | .int _, .str _ => some false
  | .str _, .int _ => some false
  | .bl _, .str _ => some false
  | .str _, .bl _ => some false
  | _, _ => none
theorem sEq_ok {x y : V} {b : Bool} (h : sEq x y = some b) : scal x y = true ∧ decide (x = y) = b := by
  cases x <;> cases y <;> simp only [sEq, Option.some.injEq, reduceCtorEq] at h <;> subst h <;> refine ⟨rfl, ?_⟩ <;> simp
def zEq : R2 := fun x y H Q => match sEq x y with
  | some b => Q (.bl b) H
  | none => False
def zNe : R2 := fun x y H Q => match sEq x y with
  | some b => Q (.bl (!b)) H
  | none => False
/-- == of data -/
def zEqD (K : PySem.W.Frag) : R2 := fun x y H Q => ∃ d e, Dp K H x d ∧ Dp K H y e ∧ SeqAt.shaped d = true ∧ SeqAt.shaped e = true ∧ Q (.bl (PyData.eqv d e)) H
def zNeD (K : PySem.W.Frag) : R2 := fun x y H Q => ∃ d e, Dp K H x d ∧ Dp K H y e ∧ SeqAt.shaped d = true ∧ SeqAt.shaped e = true ∧ Q (.bl (!PyData.eqv d e)) H
def zLt : R2 := fun x y H Q => match x, y with
  | .int i, .int j => Q (.bl (decide (i < j))) H
  | _, _ => False
def zLe : R2 := fun x y H Q => match x, y with
  | .int i, .int j => Q (.bl (decide (i ≤ j))) H
  | _, _ => False
def zGt : R2 := fun x y H Q => match x, y with
  | .int i, .int j => Q (.bl (decide (j < i))) H
  | _, _ => False
def zGe : R2 := fun x y H Q => match x, y with
  | .int i, .int j => Q (.bl (decide (j ≤ i))) H
  | _, _ => False
/-- x in xs: a list or tuple of flat things; a sign in a text -/
def zIn (K : PySem.W.Frag) (neg : Bool) : R2 := fun x y H Q => match y with
  | .ref p => ∃ xs, (SqL K H p xs ∨ SqT K H p xs) ∧ flatV x = true ∧ xs.all flatV = true ∧ Q (.bl (if neg then !inV x xs else inV x xs)) H
  | .str z => (match x with
    | .str c => ∃ n : Nat, c = ⟨#[n]⟩ ∧ Q (.bl (if neg then !decide (n ∈ z.cps.toList) else decide (n ∈ z.cps.toList))) H
    | _ => False)
  | _ => False
def zIs : R2 := fun x y H Q => match y with
  | .non => Q (.bl (match x with | .non => true | _ => false)) H
  | _ => False
def zIsNot : R2 := fun x y H Q => match y with
  | .non => Q (.bl (match x with | .non => false | _ => true)) H
  | _ => False
def zNeg : V → Hp → VK → Prop := fun x H Q => match x with
  | .int i => Q (.int (-i)) H
  | _ => False
section
variable {X : Cx}
theorem i2 {r : R2} {P : V → V → Hp → VK → Prop} (h : ∀ i j H Q, r (.int i) (.int j) H Q → P (.int i) (.int j) H Q) (hn : ∀ x y H Q, r x y H Q → ∃ i j, x = .int i ∧ y = .int j) : ∀ x y H Q, r x y H Q → P x y H Q := fun x y H Q q => by
  obtain ⟨i, j, rfl, rfl⟩ := hn x y H Q q
  exact h i j H Q q
theorem op_zSub : OpR X (binaryOp .Sub) zSub := OpR.imp op_sub fun x y H Q q => by
  cases x <;> cases y <;> first | exact q.elim | exact ⟨_, _, rfl, rfl, q⟩
theorem op_zMul : OpR X (binaryOp .Mult) zMul := OpR.imp op_mul fun x y H Q q => by
  cases x <;> cases y <;> first | exact q.elim | exact ⟨_, _, rfl, rfl, q.1, q.2⟩
theorem op_zDiv : OpR X (binaryOp .FloorDiv) zDiv := OpR.imp op_fdivW fun x y H Q q => by
  cases x <;> cases y <;> first | exact q.elim | exact ⟨_, _, rfl, rfl, q.1, q.2⟩
theorem op_zMod : OpR X (binaryOp .Mod) zMod := OpR.imp op_mod fun x y H Q q => by
  cases x <;> cases y <;> first | exact q.elim | exact ⟨_, _, rfl, rfl, q.1, q.2⟩
theorem op_zPow : OpR X (binaryOp .Pow) zPow := OpR.imp op_pow fun x y H Q q => by
  cases x <;> cases y <;> first | exact q.elim | exact ⟨_, _, rfl, rfl, q.1, q.2⟩
theorem op_zShl : OpR X (binaryOp .LShift) zShl := OpR.imp op_shl fun x y H Q q => by
  cases x <;> cases y <;> first | exact q.elim | exact ⟨_, _, rfl, rfl, q.1, q.2⟩
theorem op_zShr : OpR X (binaryOp .RShift) zShr := OpR.imp op_shr fun x y H Q q => by
  cases x <;> cases y <;> first | exact q.elim | exact ⟨_, _, rfl, rfl, q.1, q.2⟩
theorem op_zAnd : OpR X (binaryOp .BitAnd) zAnd := OpR.imp op_and fun x y H Q q => by
  cases x <;> cases y <;> first | exact q.elim | exact ⟨_, _, rfl, rfl, q⟩
theorem op_zAdd : OpR X (binaryOp .Add) zAdd := OpR.imp (OpR.or op_add op_add_str) fun x y H Q q => by
  cases x <;> cases y <;> first | exact q.elim | exact .inl ⟨_, _, rfl, rfl, q⟩ | exact .inr ⟨_, _, rfl, rfl, q.1, q.2⟩
theorem iop_zAdd : OpR X (inplaceOp .Add) zAdd := OpR.imp (OpR.or iop_add iop_add_str) fun x y H Q q => by
  cases x <;> cases y <;> first | exact q.elim | exact .inl ⟨_, _, rfl, rfl, q⟩ | exact .inr ⟨_, _, rfl, rfl, q.1, q.2⟩
theorem iop_zSub : OpR X (inplaceOp .Sub) zSub := OpR.imp iop_sub fun x y H Q q => by
  cases x <;> cases y <;> first | exact q.elim | exact ⟨_, _, rfl, rfl, q⟩
theorem op_zCatL : OpR X (binaryOp .Add) zCatL := OpR.imp op_cat fun x y H Q q => by
  cases x <;> cases y <;> first | exact q.elim | skip
  obtain ⟨xs, zs, h1, h2, h3, h4⟩ := q
  exact ⟨_, _, xs, zs, rfl, rfl, h1, h2, h3, h4⟩
theorem op_zCatT : OpR X (binaryOp .Add) (zCatT X.K) := OpR.imp op_catA fun x y H Q q => by
  cases x <;> cases y <;> first | exact q.elim | skip
  obtain ⟨xs, zs, h⟩ := q
  exact ⟨_, _, xs, zs, rfl, rfl, h⟩
theorem op_zRepL : OpR X (binaryOp .Mult) zRepL := OpR.imp op_rep fun x y H Q q => by
  cases x <;> cases y <;> first | exact q.elim | skip
  obtain ⟨xs, h⟩ := q
  exact ⟨_, _, xs, rfl, rfl, h⟩
theorem op_zEq : OpR X (compareOp .Eq) zEq := OpR.imp op_eq fun x y H Q q => by
  unfold zEq at q
  cases e : sEq x y with
  | none => rw [e] at q; exact q.elim
  | some b =>
    rw [e] at q
    obtain ⟨h1, h2⟩ := sEq_ok e
    refine ⟨h1, ?_⟩
    rw [h2]
    exact q
theorem op_zNe : OpR X (compareOp .NotEq) zNe := OpR.imp op_ne fun x y H Q q => by
  unfold zNe at q
  cases e : sEq x y with
  | none => rw [e] at q; exact q.elim
  | some b =>
    rw [e] at q
    obtain ⟨h1, h2⟩ := sEq_ok e
    refine ⟨h1, ?_⟩
    rw [h2]
    exact q
theorem op_zEqD (hu : X.A.units + 64 < cLine) : OpR X (compareOp .Eq) (zEqD X.K) := op_eqD hu
theorem op_zNeD (hu : X.A.units + 64 < cLine) : OpR X (compareOp .NotEq) (zNeD X.K) := op_neD hu
theorem op_zLt : OpR X (compareOp .Lt) zLt := OpR.imp op_lt fun x y H Q q => by
  cases x <;> cases y <;> first | exact q.elim | exact ⟨_, _, rfl, rfl, q⟩
theorem op_zLe : OpR X (compareOp .LtE) zLe := OpR.imp op_le fun x y H Q q => by
  cases x <;> cases y <;> first | exact q.elim | exact ⟨_, _, rfl, rfl, q⟩
theorem op_zGt : OpR X (compareOp .Gt) zGt := OpR.imp op_gt fun x y H Q q => by
  cases x <;> cases y <;> first | exact q.elim | exact ⟨_, _, rfl, rfl, q⟩
theorem op_zGe : OpR X (compareOp .GtE) zGe := OpR.imp op_ge fun x y H Q q => by
  cases x <;> cases y <;> first | exact q.elim | exact ⟨_, _, rfl, rfl, q⟩
theorem op_zIn : OpR X (compareOp .In) (zIn X.K false) := OpR.imp (OpR.or op_in_seq op_in_sign) fun x y H Q q => by
  cases y with
  | ref p =>
    obtain ⟨xs, h1, h2, h3, h4⟩ := q
    exact .inl ⟨p, xs, rfl, h1, h2, h3, h4⟩
  | str z =>
    cases x with
    | str c =>
      obtain ⟨n, rfl, h⟩ := q
      exact .inr ⟨n, z, rfl, rfl, h⟩
    | _ => exact q.elim
  | _ => exact q.elim
theorem op_zNotIn : OpR X (compareOp .NotIn) (zIn X.K true) := OpR.imp (OpR.or op_notIn_seq op_notIn_sign) fun x y H Q q => by
  cases y with
  | ref p =>
    obtain ⟨xs, h1, h2, h3, h4⟩ := q
    exact .inl ⟨p, xs, rfl, h1, h2, h3, h4⟩
  | str z =>
    cases x with
    | str c =>
      obtain ⟨n, rfl, h⟩ := q
      exact .inr ⟨n, z, rfl, rfl, h⟩
    | _ => exact q.elim
  | _ => exact q.elim
theorem op_zIs : OpR X (compareOp .Is) zIs := OpR.imp op_isN fun x y H Q q => by
  cases y <;> first | exact q.elim | skip
  refine ⟨rfl, ?_⟩
  cases x <;> exact q
theorem op_zIsNot : OpR X (compareOp .IsNot) zIsNot := OpR.imp op_notN fun x y H Q q => by
  cases y <;> first | exact q.elim | skip
  refine ⟨rfl, ?_⟩
  cases x <;> exact q
theorem un_zNeg : UnR X (unaryOp .USub) zNeg := fun pins s σ H x v Q I rx q => un_neg pins s σ H x v Q I rx (by cases x <;> first | exact q.elim | exact ⟨_, rfl, q⟩)
/-! ### expressions -/
theorem yv (i : Nat) {x : Str} {pos : Pos} (hN : X.N[i]? = some x := by rfl) (hv : Vis X.env.scope x := by first | exact Or.inl rfl | exact Or.inr (Or.inl rfl) | exact Or.inr (Or.inr rfl)) (hd : (x == ("__debug__" : Str)) = false := by decide)
    (hcd : (x == ("__classdict__" : Str)) = false := by decide) : PE X (.Name x pos) (yVar i) := PE.imp (pv i hN hv hd hcd) fun σ H Q q => by
  unfold yVar at q
  split at q
  · rename_i v e
    exact ⟨v, e, q⟩
  · exact q.elim
/-- a and b, a or b: of truth values, but the last -/
def yAndV (ta tb : TE) : TE := fun σ H Q => ta σ H fun x H1 => match x with
  | .bl c => yBr c (tb σ H1 Q) (Q (.bl false) H1)
  | _ => False
def yOrV (ta tb : TE) : TE := fun σ H Q => ta σ H fun x H1 => match x with
  | .bl c => yBr c (Q (.bl true) H1) (tb σ H1 Q)
  | _ => False
def yNotV (ta : TE) : TE := fun σ H Q => ta σ H fun x H1 => match x with
  | .bl c => Q (.bl (!c)) H1
  | _ => False
end
end Eb

namespace Eb
open PySem PySem.Spec PyProof.Rows L2
/-! ### a reading made monotone -/
def upE (t : TE) : TE := fun σ H Q => ∃ Q0 : VK, t σ H Q0 ∧ ∀ v H', Q0 v H' → Q v H'
def upT (t : TT) : TT := fun σ H Q => ∃ Q0 : Bool → Hp → Prop, t σ H Q0 ∧ ∀ v H', Q0 v H' → Q v H'
def upA (t : TA) : TA := fun σ H Q => ∃ Q0 : List V → Hp → Prop, t σ H Q0 ∧ ∀ v H', Q0 v H' → Q v H'
section
variable {X : Cx}
theorem PE.up {e : Expr} {t : TE} (h : PE X e t) : PE X e (upE t) := ⟨fun pins s σ H Q I ⟨Q0, q, k⟩ => thn (h.run pins s σ H Q0 I q) fun u s1 ⟨v, H', I', r, q'⟩ => ⟨v, H', I', r, k v H' q'⟩⟩
theorem PT.up {e : Expr} {t : TT} (h : PT X e t) : PT X e (upT t) := ⟨fun pins s σ H Q I ⟨Q0, q, k⟩ => thn (h.run pins s σ H Q0 I q) fun u s1 ⟨H', I', q'⟩ => ⟨H', I', k u H' q'⟩⟩
theorem PA.up {e : List Expr} {t : TA} (h : PA X e t) : PA X e (upA t) := ⟨fun pos pins s σ H Q I ⟨Q0, q, k⟩ => thn (h.run pos pins s σ H Q0 I q) fun u s1 ⟨v, H', I', r, q'⟩ => ⟨v, H', I', r, k v H' q'⟩⟩
/-- an operator's reading made monotone -/
def upR (r : R2) : R2 := fun x y H Q => ∃ Q0 : VK, r x y H Q0 ∧ ∀ v H', Q0 v H' → Q v H'
theorem OpR.up {X : Cx} {f : Value → Value → Sem Value} {r : R2} (h : OpR X f r) : OpR X f (upR r) := fun pins s σ H x y v u Q I rx ry ⟨Q0, q, k⟩ => thn (h pins s σ H x y v u Q0 I rx ry q) fun _ s1 ⟨v, H', I', r, q'⟩ => ⟨v, H', I', r, k v H' q'⟩
end
/-! ### tests -/
def yTst (t : TE) : TT := fun σ H Q => t σ H fun x H1 => match x with
  | .bl c => Q c H1
  | _ => False
def yAnd (t u : TT) : TT := fun σ H Q => t σ H fun c H1 => yBr c (u σ H1 Q) (Q false H1)
def yOr (t u : TT) : TT := fun σ H Q => t σ H fun c H1 => yBr c (Q true H1) (u σ H1 Q)
def yNot (t : TT) : TT := fun σ H Q => t σ H fun c H1 => Q (!c) H1
def yIfE (t : TT) (ta tb : TE) : TE := fun σ H Q => t σ H fun c H1 => yBr c (ta σ H1 Q) (tb σ H1 Q)
def yIf (t : TT) (a b : TS) : TS := fun D σ H => t σ H fun c H1 => yBr c (a D σ H1) (b D σ H1)
/-- truth of a list or tuple -/
def yTruL (K : PySem.W.Frag) (t : TE) : TT := fun σ H Q => t σ H fun x H1 => match x with
  | .ref a => ∃ xs, (SqL K H1 a xs ∨ SqT K H1 a xs) ∧ Q (!xs.isEmpty) H1
  | _ => False
/-- a < b < c -/
def yChain (r r' : R2) (ta tb tc : TE) : TE := fun σ H Q => ta σ H fun x H1 => tb σ H1 fun y H2 => r x y H2 fun z H3 => match z with
  | .bl k => yBr k (tc σ H3 fun w' H4 => r' y w' H4 Q) (Q (.bl false) H3)
  | _ => False
/-- xs or ys, of lists -/
def yOrL (K : PySem.W.Frag) (ta tb : TE) : TE := fun σ H Q => ta σ H fun x H1 => match x with
  | .ref a => ∃ xs, (SqL K H1 a xs ∨ SqT K H1 a xs) ∧ yBr (!xs.isEmpty) (Q (.ref a) H1) (tb σ H1 Q)
  | .non => tb σ H1 Q
  | _ => False
section
variable {X : Cx}
theorem yt_val {e : Expr} {t : TE} (h : PE X e t) (he : ∀ whole, isTrue e X.env whole = (do let v ← whole; standAt e.pos; holding [v] (truthy v)) := by intro _; rfl) : PT X e (yTst t) := PT.imp (pt_val (PE.up h) he) fun σ H Q q => ⟨_, q, fun x H1 q1 => by
  cases x <;> first | exact False.elim q1 | exact ⟨_, rfl, q1⟩⟩
theorem yt_cmp {op : CmpOp} {a b : Expr} {ta tb : TE} {r : R2} {pos : Pos} (ho : OpR X (compareOp op) r) (ha : PE X a ta) (hb : PE X b tb) (hm : behindInMarks op b = false) : PT X (.Compare a [op] [b] pos) (yTst (tOp r ta tb)) :=
  PT.imp (pt_cmpR (OpR.up ho) (PE.up ha) (PE.up hb) hm) fun σ H Q q => ⟨_, q, fun x H1 q1 => ⟨_, q1, fun y H2 q2 => ⟨_, q2, fun z H3 q3 => by
    cases z <;> first | exact False.elim q3 | exact ⟨_, rfl, q3⟩⟩⟩⟩
theorem yt_and {a b : Expr} {rest : List Expr} {pos : Pos} {ta tb : TT} (ha : PT X a ta) (hb : PW X (.BoolOp .And (b :: rest) pos) tb) : PW X (.BoolOp .And (a :: b :: rest) pos) (yAnd ta tb) := by
  have e : yAnd ta tb = tAnd ta tb := by
    funext σ H Q
    unfold yAnd tAnd
    simp only [yBr_def]
  rw [e]
  exact pw_and ha hb
theorem yt_or {a b : Expr} {rest : List Expr} {pos : Pos} {ta tb : TT} (ha : PT X a ta) (hb : PW X (.BoolOp .Or (b :: rest) pos) tb) : PW X (.BoolOp .Or (a :: b :: rest) pos) (yOr ta tb) := by
  have e : yOr ta tb = tOr ta tb := by
    funext σ H Q
    unfold yOr tOr
    simp only [yBr_def]
  rw [e]
  exact pw_or ha hb
theorem yt_not {a : Expr} {ta : TT} {pos : Pos} (ha : PT X a ta) : PT X (.UnaryOp .Not a pos) (yNot ta) := pt_not ha
theorem ye_if {c a b : Expr} {t : TT} {ta tb : TE} {pos : Pos} (hc : PT X c t) (ha : PE X a ta) (hb : PE X b tb) : PE X (.IfExp c a b pos) (yIfE t ta tb) := by
  have e : yIfE t ta tb = tIf t ta tb := by
    funext σ H Q
    unfold yIfE tIf
    simp only [yBr_def]
  rw [e]
  exact pe_ifExp hc ha hb
theorem ys_if {c : Expr} {a b : List Stmt} {t : TT} {u v : TS} {pos : Pos} (hc : PT X c t) (ha : PSs X a u) (hb : PSs X b v) : PS X (.If c a b pos) (yIf t u v) := by
  have e : yIf t u v = tIfS t u v := by
    funext D σ H
    unfold yIf tIfS
    simp only [yBr_def]
  rw [e]
  exact ps_if hc ha hb
theorem yt_truL {e : Expr} {t : TE} (h : PE X e t) (he : ∀ whole, isTrue e X.env whole = (do let v ← whole; standAt e.pos; holding [v] (truthy v))) : PT X e (yTruL X.K t) :=
  PT.imp (pt_truth (PE.up h) he) fun σ H Q q => ⟨_, q, fun x H1 q1 => by
    cases x <;> first | exact False.elim q1 | skip
    obtain ⟨xs, h1, q2⟩ := q1
    rcases h1 with h1 | h1
    · exact ⟨_, .inl ⟨xs, h1, rfl⟩, q2⟩
    · exact ⟨_, .inr (.inl ⟨xs, h1, rfl⟩), q2⟩⟩
theorem ye_chain {op op' : CmpOp} {a b c : Expr} {ta tb tc : TE} {r r' : R2} {pos : Pos} (ho : OpR X (compareOp op) r) (ho' : OpR X (compareOp op') r') (ha : PE X a ta) (hb : PE X b tb) (hc : PE X c tc)
    (hm : lastMarks [op, op'] [b, c] = false := by with_unfolding_all rfl) : PE X (.Compare a [op, op'] [b, c] pos) (yChain r r' ta tb tc) :=
  PE.imp (pe_chain (OpR.up ho) ho' (PE.up ha) (PE.up hb) hc hm) fun σ H Q q => ⟨_, q, fun x H1 q1 => ⟨_, q1, fun y H2 q2 => ⟨_, q2, fun z H3 q3 => by
    cases z <;> first | exact False.elim q3 | skip
    refine ⟨_, rfl, ?_⟩
    have q4 := q3
    dsimp only at q4
    rw [yBr_def] at q4
    exact q4⟩⟩⟩
theorem yt_chain {op op' : CmpOp} {a b c : Expr} {ta tb tc : TE} {r r' : R2} {pos : Pos} (ho : OpR X (compareOp op) r) (ho' : OpR X (compareOp op') r') (ha : PE X a ta) (hb : PE X b tb) (hc : PE X c tc)
    (hm : lastMarks [op, op'] [b, c] = false := by with_unfolding_all rfl) : PT X (.Compare a [op, op'] [b, c] pos) (yTst (yChain r r' ta tb tc)) :=
  PT.imp (pt_chain (OpR.up ho) (OpR.up ho') (PE.up ha) (PE.up hb) (PE.up hc) hm) fun σ H Q q => ⟨_, q, fun x H1 q1 => ⟨_, q1, fun y H2 q2 => ⟨_, q2, fun z H3 q3 => by
    cases z <;> first | exact False.elim q3 | skip
    refine ⟨_, rfl, ?_⟩
    have q4 := q3
    dsimp only at q4
    rw [yBr_def] at q4
    rename_i k
    cases k with
    | true => exact ⟨_, q4, fun w' H4 q5 => ⟨_, q5, fun z' H5 q6 => by
        cases z' <;> first | exact False.elim q6 | exact ⟨_, rfl, q6⟩⟩⟩
    | false => exact ⟨_, rfl, q4⟩⟩⟩⟩
theorem ye_and {a b : Expr} {rest : List Expr} {pos : Pos} {ta tb : TE} (ha : PE X a ta) (hb : PE X (.BoolOp .And (b :: rest) pos) tb) : PE X (.BoolOp .And (a :: b :: rest) pos) (yAndV ta tb) :=
  PE.imp (pe_and (PE.up ha) hb) fun σ H Q q => ⟨_, q, fun x H1 q1 => by
    cases x <;> first | exact False.elim q1 | skip
    refine ⟨_, rfl, ?_⟩
    dsimp only at q1
    rw [yBr_def] at q1
    exact q1⟩
theorem ye_or {a b : Expr} {rest : List Expr} {pos : Pos} {ta tb : TE} (ha : PE X a ta) (hb : PE X (.BoolOp .Or (b :: rest) pos) tb) : PE X (.BoolOp .Or (a :: b :: rest) pos) (yOrV ta tb) :=
  PE.imp (pe_or (PE.up ha) hb) fun σ H Q q => ⟨_, q, fun x H1 q1 => by
    cases x <;> first | exact False.elim q1 | skip
    refine ⟨_, rfl, ?_⟩
    dsimp only at q1
    rw [yBr_def] at q1
    exact q1⟩
theorem ye_not {a : Expr} {pos : Pos} {ta : TE} (ha : PE X a ta) : PE X (.UnaryOp .Not a pos) (yNotV ta) :=
  PE.imp (pe_not (PE.up ha)) fun σ H Q q => ⟨_, q, fun x H1 q1 => by
    cases x <;> first | exact False.elim q1 | skip
    exact ⟨_, rfl, q1⟩⟩
end
/-! ### subscripts -/
def zIxL (K : PySem.W.Frag) : R2 := fun x y H Q => match x, y with
  | .ref p, .int i => ∃ xs v, (SqL K H p xs ∨ SqT K H p xs) ∧ atI xs i = some v ∧ Q v H
  | .str z, .int i => z.length ≤ sizeLine ∧ ∃ c, atI z.cps.toList i = some c ∧ Q (.str ⟨#[c]⟩) H
  | _, _ => False
def yDGet (td ty : TE) : TE := fun σ H Q => td σ H fun x H1 => ty σ H1 fun y H2 => match x, y with
  | .ref a, .str k => ∃ kvs v, Rd H2 a (.dK kvs) ∧ valV kvs (Sum.inr k) = some v ∧ Q v H2
  | .ref a, .int k => ∃ kvs v, Rd H2 a (.dK kvs) ∧ valV kvs (Sum.inl k) = some v ∧ Q v H2
  | _, _ => False
def yDPut (td ty tv : TE) : TS := fun D σ H => tv σ H fun v H1 => td σ H1 fun x H2 => ty σ H2 fun y H3 => match x, y with
  | .ref a, .str k => ∃ kvs, H3 a = some (.dK kvs) ∧ kvs.length < sizeLine ∧ D.nx σ (upd H3 a (.dK (putK kvs (Sum.inr k) v)))
  | .ref a, .int k => ∃ kvs, H3 a = some (.dK kvs) ∧ kvs.length < sizeLine ∧ D.nx σ (upd H3 a (.dK (putK kvs (Sum.inl k) v)))
  | _, _ => False
def yDIn (neg : Bool) (ty td : TE) : TE := fun σ H Q => ty σ H fun y H1 => td σ H1 fun x H2 => match x, y with
  | .ref a, .str k => ∃ kvs, Rd H2 a (.dK kvs) ∧ Q (.bl (if neg then !(valV kvs (Sum.inr k)).isSome else (valV kvs (Sum.inr k)).isSome)) H2
  | .ref a, .int k => ∃ kvs, Rd H2 a (.dK kvs) ∧ Q (.bl (if neg then !(valV kvs (Sum.inl k)).isSome else (valV kvs (Sum.inl k)).isSome)) H2
  | _, _ => False
section
variable {X : Cx}
theorem ix_zIxL : IxR X (zIxL X.K) := IxR.imp ix_seq fun x y H Q q => by
  cases x <;> cases y <;> first | exact q.elim | skip
  · obtain ⟨h, c, h2, q⟩ := q
    exact .inr (.inr ⟨_, _, c, rfl, rfl, h, h2, q⟩)
  · obtain ⟨xs, v, h, h2, q⟩ := q
    rcases h with h | h
    · exact .inl ⟨_, xs, _, v, rfl, rfl, h, h2, q⟩
    · exact .inr (.inl ⟨_, xs, _, v, rfl, rfl, h, h2, q⟩)
theorem ye_dget {o i : Expr} {td ty : TE} {pos : Pos} (hu : X.A.units + 1 < cLine) (ho : PE X o td) (hi : PE X i ty) (hs : NoSl i) : PE X (.Subscript o i pos) (yDGet td ty) :=
  PE.imp (pe_dget hu (PE.up ho) (PE.up hi) hs) fun σ H Q q => ⟨_, q, fun x H1 q1 => ⟨_, q1, fun y H2 q2 => by
    cases x <;> cases y <;> first | exact False.elim q2 | skip
    all_goals
      obtain ⟨kvs, v, h1, h2, q3⟩ := q2
    · exact ⟨_, v, rfl, .inl ⟨kvs, Sum.inl _, h1, rfl, h2.symm⟩, q3⟩
    · exact ⟨_, v, rfl, .inl ⟨kvs, Sum.inr _, h1, rfl, h2.symm⟩, q3⟩⟩⟩
theorem ys_dput {o i value : Expr} {td ty tv : TE} {pos pos' : Pos} (hu : X.A.units + 1 < cLine) (ho : PE X o td) (hi : PE X i ty) (hv : PE X value tv) (hs : swapsWith value (some (.Subscript o i pos')) pos.line X.env = pure false) :
    PS X (.Assign [.Subscript o i pos'] value pos) (yDPut td ty tv) := PS.imp (ps_dput hu (PE.up ho) (PE.up hi) (PE.up hv) hs) fun D σ H q => ⟨_, q, fun v H1 q1 => ⟨_, q1, fun x H2 q2 => ⟨_, q2, fun y H3 q3 => by
    cases x <;> cases y <;> first | exact False.elim q3 | skip
    all_goals
      obtain ⟨kvs, h1, h2, q4⟩ := q3
    · exact ⟨_, _, rfl, .inl ⟨kvs, Sum.inl _, h1, rfl, h2, rfl⟩, q4⟩
    · exact ⟨_, _, rfl, .inl ⟨kvs, Sum.inr _, h1, rfl, h2, rfl⟩, q4⟩⟩⟩⟩
theorem ye_din {i o : Expr} {ty td : TE} {pos : Pos} (hu : X.A.units + 1 < cLine) (hi : PE X i ty) (ho : PE X o td) (hm : behindInMarks .In o = false) : PE X (.Compare i [.In] [o] pos) (yDIn false ty td) :=
  PE.imp (pe_cmp (pc_din hu (PE.up hi) (PE.up ho)) hm) fun σ H Q q => ⟨_, q, fun y H1 q1 => ⟨_, q1, fun x H2 q2 => by
    cases x <;> cases y <;> first | exact False.elim q2 | skip
    all_goals
      obtain ⟨kvs, h1, q3⟩ := q2
    · exact ⟨_, _, rfl, .inl ⟨kvs, Sum.inl _, h1, rfl, rfl⟩, q3⟩
    · exact ⟨_, _, rfl, .inl ⟨kvs, Sum.inr _, h1, rfl, rfl⟩, q3⟩⟩⟩
theorem yt_din {i o : Expr} {ty td : TE} {pos : Pos} (hu : X.A.units + 1 < cLine) (hi : PE X i ty) (ho : PE X o td) (hm : behindInMarks .In o = false) : PT X (.Compare i [.In] [o] pos) (yTst (yDIn false ty td)) :=
  PT.imp (pt_cmp (pc_din hu (PE.up hi) (PE.up ho)) hm) fun σ H Q q => ⟨_, q, fun y H1 q1 => ⟨_, q1, fun x H2 q2 => by
    cases x <;> cases y <;> first | exact False.elim q2 | skip
    all_goals
      obtain ⟨kvs, h1, q3⟩ := q2
    · exact ⟨_, _, rfl, .inl ⟨kvs, Sum.inl _, h1, rfl, rfl⟩, _, rfl, q3⟩
    · exact ⟨_, _, rfl, .inl ⟨kvs, Sum.inr _, h1, rfl, rfl⟩, _, rfl, q3⟩⟩⟩
theorem yt_dnotin {i o : Expr} {ty td : TE} {pos : Pos} (hu : X.A.units + 1 < cLine) (hi : PE X i ty) (ho : PE X o td) (hm : behindInMarks .NotIn o = false) : PT X (.Compare i [.NotIn] [o] pos) (yTst (yDIn true ty td)) :=
  PT.imp (pt_cmp (pc_dnotin hu (PE.up hi) (PE.up ho)) hm) fun σ H Q q => ⟨_, q, fun y H1 q1 => ⟨_, q1, fun x H2 q2 => by
    cases x <;> cases y <;> first | exact False.elim q2 | skip
    all_goals
      obtain ⟨kvs, h1, q3⟩ := q2
    · exact ⟨_, _, rfl, .inl ⟨kvs, Sum.inl _, h1, rfl, rfl⟩, _, rfl, q3⟩
    · exact ⟨_, _, rfl, .inl ⟨kvs, Sum.inr _, h1, rfl, rfl⟩, _, rfl, q3⟩⟩⟩
theorem ye_dnotin {i o : Expr} {ty td : TE} {pos : Pos} (hu : X.A.units + 1 < cLine) (hi : PE X i ty) (ho : PE X o td) (hm : behindInMarks .NotIn o = false) : PE X (.Compare i [.NotIn] [o] pos) (yDIn true ty td) :=
  PE.imp (pe_cmp (pc_dnotin hu (PE.up hi) (PE.up ho)) hm) fun σ H Q q => ⟨_, q, fun y H1 q1 => ⟨_, q1, fun x H2 q2 => by
    cases x <;> cases y <;> first | exact False.elim q2 | skip
    all_goals
      obtain ⟨kvs, h1, q3⟩ := q2
    · exact ⟨_, _, rfl, .inl ⟨kvs, Sum.inl _, h1, rfl, rfl⟩, q3⟩
    · exact ⟨_, _, rfl, .inl ⟨kvs, Sum.inr _, h1, rfl, rfl⟩, q3⟩⟩⟩
end
/-! ### attributes -/
/-- one of some classes of the module -/
def isC (K : PySem.W.Frag) : List Str → Addr → Prop
  | [], _ => False
  | [x], C => C = He.ga K x
  | x :: r, C => C = He.ga K x ∨ isC K r C
/-- e.f of an instance of one of some classes -/
def yFld (P : Addr → Prop) (ta : TE) (f : Str) : TE := fun σ H Q => ta σ H fun x H1 => match x with
  | .ref a => ∃ C dx fs v, H1 a = some (.ins C dx fs) ∧ P C ∧ fs.lookup f = some v ∧ Q v H1
  | _ => False
def yPutF (P : Addr → Prop) (ta tv : TE) (f : Str) : TS := fun D σ H => tv σ H fun y H1 => ta σ H1 fun x H2 => match x with
  | .ref a => ∃ C dx fs, H2 a = some (.ins C dx fs) ∧ P C ∧ fs.length < 1000 ∧ D.nx σ (upd H2 a (.ins C dx (putF f y fs)))
  | _ => False
def yAugF (P : Addr → Prop) (ta tv : TE) (rd : R2) (f : Str) : TS := fun D σ H => ta σ H fun x H1 => match x with
  | .ref a => ∃ C dx fs v, H1 a = some (.ins C dx fs) ∧ P C ∧ fs.lookup f = some v ∧ tv σ H1 fun y H2 => rd v y H2 fun z H3 => ∃ dx' fs', H3 a = some (.ins C dx' fs') ∧ fs'.length < 1000 ∧ D.nx σ (upd H3 a (.ins C dx' (putF f z fs')))
  | _ => False
section
variable {X : Cx}
theorem ye_fld {P : Addr → Prop} {e : Expr} {ta : TE} {f : Str} {pos : Pos} (hP : ∀ C, P C → Cls X.K C ∧ NoAttr X.K C f) (he : PE X e ta) (hb : attributeBase e f X.env (eval e X.env) = eval e X.env) : PE X (.Attribute e f pos) (yFld P ta f) :=
  PE.imp (pe_fld (PE.up he) hb) fun σ H Q q => ⟨_, q, fun x H1 q1 => by
    cases x <;> first | exact False.elim q1 | skip
    obtain ⟨C, dx, fs, v, h1, h2, h3, q2⟩ := q1
    exact ⟨_, C, dx, fs, v, rfl, h1, (hP C h2).1, (hP C h2).2, h3, q2⟩⟩
theorem ys_fld {P : Addr → Prop} {o value : Expr} {ta tv : TE} {f : Str} {pos pos' : Pos} (hP : ∀ C, P C → Cls X.K C ∧ NoAttr X.K C f) (ha : PE X o ta) (hv : PE X value tv) (hs : swapsWith value (some (.Attribute o f pos')) pos.line X.env = pure false) :
    PS X (.Assign [.Attribute o f pos'] value pos) (yPutF P ta tv f) := PS.imp (ps_fld (PE.up ha) (PE.up hv) hs) fun D σ H q => ⟨_, q, fun y H1 q1 => ⟨_, q1, fun x H2 q2 => by
    cases x <;> first | exact False.elim q2 | skip
    obtain ⟨C, dx, fs, h1, h2, h3, q3⟩ := q2
    exact ⟨_, C, dx, fs, rfl, h1, (hP C h2).1, (hP C h2).2, h3, q3⟩⟩⟩
end
/-! ### sources of loops -/
abbrev Rsrc := Nat → (Hp → Prop) → (Nat → Hp → V → Hp → Prop) → Hp → Prop
abbrev Src := L2.St → Hp → Rsrc → Prop
structure PSrc (X : Cx) (tg iter : Expr) (src : Src) : Prop where
  wi : ∃ wi : TI, PI X tg iter wi ∧ ∀ σ H (R : It → Hp → Prop) (R' : Rsrc), src σ H R' → (∀ n G Y H1, R' n G Y H1 → ∀ J, Walk J n G Y → R J H1) → wi σ H R
/-- a for: Pv by the turn, the slots, the heap -/
def yFor (src : Src) (g : TG) (tb : TS) : TS := fun D σ H => src σ H fun n G Y H1 => ∃ Pv : Nat → L2.St → Hp → Prop, Pv 0 σ H1 ∧ (∀ i σ H, i ≤ n → Pv i σ H → G H) ∧
  (∀ i x σ H H', i < n → Pv i σ H → Y i H x H' → g x σ H' fun σ2 H2 => tb { D with nx := Pv (i + 1), ct := Pv (i + 1), bk := D.nx } σ2 H2) ∧ ∀ σ H, Pv n σ H → D.nx σ H
/-- a comprehension: Pv by the turn, what is made so far, the heap (the new list at D within) -/
def yLc (src : Src) (g : TG) (tt : TT) (te : TE) (vs : List Nat) : TE := fun σ H Q => src σ H fun n G Y H1 => ∀ D, H1 D = none → ∃ Pv : Nat → List V → Hp → Prop, Pv 0 [] (upd H1 D (.lst [])) ∧ (∀ i acc H, i ≤ n → Pv i acc H → G H ∧ H D = some (.lst acc) ∧ acc.length < sizeLine) ∧
  (∀ i x acc H H', i < n → Pv i acc H → Y i H x H' → g x (wipe σ vs) H' fun σ2 H2 => wipe σ2 vs = wipe σ vs ∧ tt σ2 H2 fun b H3 =>
    yBr b (te σ2 H3 fun y H4 => H4 D = some (.lst acc) ∧ Pv (i + 1) (acc ++ [y]) (upd H4 D (.lst (acc ++ [y])))) (Pv (i + 1) acc H3)) ∧ ∀ acc H, Pv n acc H → Q (.ref D) H
def jLst (K : PySem.W.Frag) (tl : TE) : Src := fun σ H R => tl σ H fun x H1 => match x with
  | .ref a => ∃ xs, SqL K H1 a xs ∧ R xs.length (fun H => SqL K H a xs) (YAt xs) H1
  | _ => False
def jTup (K : PySem.W.Frag) (tl : TE) : Src := fun σ H R => tl σ H fun x H1 => match x with
  | .ref a => ∃ xs, SqT K H1 a xs ∧ R xs.length (fun H => SqT K H a xs) (YAt xs) H1
  | _ => False
def jStr (tl : TE) : Src := fun σ H R => tl σ H fun x H1 => match x with
  | .str z => R z.cps.size (fun _ => True) (fun i H v H' => H' = H ∧ ∃ c, z.cps[i]? = some c ∧ v = .str ⟨#[c]⟩) H1
  | _ => False
def jRng (tl : TE) : Src := fun σ H R => tl σ H fun x H1 => match x with
  | .int j => -(2 ^ 62) ≤ j ∧ j < 2 ^ 62 ∧ R j.toNat (fun _ => True) (YFn fun i => .int (0 + (i : Nat))) H1
  | _ => False
def jRng2 (tl th : TE) : Src := fun σ H R => tl σ H fun x H1 => th σ H1 fun y H2 => match x, y with
  | .int i, .int j => (-(2 ^ 62) ≤ i ∧ i < 2 ^ 62 ∧ -(2 ^ 62) ≤ j ∧ j < 2 ^ 62) ∧ R (j - i).toNat (fun _ => True) (YFn fun k => .int (i + (k : Nat))) H2
  | _, _ => False
def jEnum (K : PySem.W.Frag) (tl : TE) : Src := fun σ H R => tl σ H fun x H1 => match x with
  | .ref a => ∃ xs, SqL K H1 a xs ∧ R xs.length (fun H => SqL K H a xs) (YPair (fun i => some (.int (i : Nat))) (fun i => xs[i]?)) H1
  | _ => False
def jZip (K : PySem.W.Frag) (tl th : TE) : Src := fun σ H R => tl σ H fun x H1 => th σ H1 fun y H2 => match x, y with
  | .ref a, .ref b => ∃ xs ys, SqL K H2 a xs ∧ SqL K H2 b ys ∧ R (min xs.length ys.length) (fun H => SqL K H a xs ∧ SqL K H b ys) (YPair (fun i => xs[i]?) (fun i => ys[i]?)) H2
  | _, _ => False
theorem PTs.up {X : Cx} {ifs : List Expr} {t : TT} (h : PTs X ifs t) : PTs X ifs (upT t) := ⟨fun pins s σ H Q I ⟨Q0, q, k⟩ => thn (h.run pins s σ H Q0 I q) fun u s1 ⟨H', I', q'⟩ => ⟨H', I', k u H' q'⟩⟩
/-- a target's reading made monotone -/
def upG (g : TG) : TG := fun v σ H Q => ∃ Q0 : L2.St → Hp → Prop, g v σ H Q0 ∧ ∀ σ' H', Q0 σ' H' → Q σ' H'
theorem PG.up {X : Cx} {tg : Expr} {g : TG} (h : PG X tg g) : PG X tg (upG g) := ⟨fun pins s σ H v u Q I r ⟨Q0, q, k⟩ => thn (h.run pins s σ H v u Q0 I r q) fun _ s1 ⟨σ', H', I', q'⟩ => ⟨σ', H', I', k σ' H' q'⟩⟩
theorem lc_ends {n : Nat} {G : Hp → Prop} {Y : Nat → Hp → V → Hp → Prop} {J : It} (w : Walk J n G Y) {g : TG} {tt : TT} {te : TE} {vs : List Nat} {σ : L2.St} {H1 : Hp} (D : Addr) {Qd : VK}
    (h : ∃ Pv : Nat → List V → Hp → Prop, Pv 0 [] (upd H1 D (.lst [])) ∧ (∀ i acc H, i ≤ n → Pv i acc H → G H ∧ H D = some (.lst acc) ∧ acc.length < sizeLine) ∧
      (∀ i x acc H H', i < n → Pv i acc H → Y i H x H' → g x (wipe σ vs) H' fun σ2 H2 => wipe σ2 vs = wipe σ vs ∧ tt σ2 H2 fun b H3 =>
        yBr b (te σ2 H3 fun y H4 => H4 D = some (.lst acc) ∧ Pv (i + 1) (acc ++ [y]) (upd H4 D (.lst (acc ++ [y])))) (Pv (i + 1) acc H3)) ∧ ∀ acc H, Pv n acc H → Qd (.ref D) H) :
    ∃ W : Nat → Nat → Hp → Prop, (∃ m, W 0 m (upd H1 D (.lst []))) ∧ ∀ i m H, W i m H →
      (J.stop i H ∧ Qd (.ref D) H) ∨ (J.go i H ∧ ∃ Nx : Hp → Prop, (∀ H', Nx H' → ∃ m', m' < m ∧ W (i + 1) m' H') ∧ ∀ x H', J.yld i H x H' → upG g x (wipe σ vs) H' fun σ2 H2 => wipe σ2 vs = wipe σ vs ∧ upT tt σ2 H2 fun b H3 =>
        if b = true then upE te σ2 H3 fun y H4 => ∃ acc, H4 D = some (.lst acc) ∧ acc.length < sizeLine ∧ Nx (upd H4 D (.lst (acc ++ [y]))) else Nx H3) := by
  obtain ⟨Pv, h0, hG, ht, hd⟩ := h
  refine lc_it w (fun i H => ∃ acc, Pv i acc H) ⟨[], h0⟩ (fun i H hi ⟨acc, p⟩ => (hG i acc H hi p).1) (fun i x H H' hi ⟨acc, p⟩ y => ?_) fun H ⟨acc, p⟩ => hd acc H p
  have hl : acc.length < sizeLine := (hG i acc H (Nat.le_of_lt hi) p).2.2
  refine ⟨_, ht i x acc H H' hi p y, fun σ2 H2 ⟨e, q⟩ => ⟨e, _, q, fun b H3 q => ?_⟩⟩
  rw [yBr_def] at q
  cases b with
  | true => exact ⟨_, q, fun v H4 ⟨q1, q2⟩ => ⟨acc, q1, hl, _, q2⟩⟩
  | false => exact ⟨acc, q⟩
section
variable {X : Cx} {tg iter : Expr}
theorem ys_for {src : Src} {g : TG} {tb : TS} {body : List Stmt} {pos : Pos} (hp : PassesOwn (model X.prog X.w) X.A X.env X.xe) (hc : X.calm = true) (hi : PSrc X tg iter src) (hg : PG X tg g) (hb : PSs X body tb)
    (hs : ∀ x, foldedSetIterable iter X.env x = pure x := by intro _; rfl) : PS X (.For tg iter body [] pos) (yFor src g tb) := by
  obtain ⟨wi, h, k⟩ := hi.wi
  refine PS.imp (ps_for hp hc h hg hb hs) fun D σ H q => k σ H _ _ q fun n G Y H1 ⟨Pv, h0, hG, ht, hd⟩ J w => ?_
  exact for_it w Pv h0 hG ht hd
theorem ye_lc {src : Src} {g : TG} {tt : TT} {te : TE} {elt : Expr} {ifs : List Expr} {scope : Scope} {own : List (Str × Nat)} {pos : Pos} (hc : X.calm = true) (hN : X.N.Nodup) (hi : PSrc X tg iter src) (ok : BlkOk X.N X.env.scope scope own)
    (hg : ∀ (s : Shared) (H : Hp) (C : Addr) (cl : List (Str × Addr)) (fp : List Addr), PG (X.blk s H scope (compEnvC scope cl C X.env) fp) tg g) (ht : ∀ (s : Shared) (H : Hp) (C : Addr) (cl : List (Str × Addr)) (fp : List Addr), PTs (X.blk s H scope (compEnvC scope cl C X.env) fp) ifs tt)
    (he : ∀ (s : Shared) (H : Hp) (C : Addr) (cl : List (Str × Addr)) (fp : List Addr), PE (X.blk s H scope (compEnvC scope cl C X.env) fp) elt te) (hs : ∀ x, foldedSetIterable iter X.env x = pure x := by intro _; rfl) :
    PE X (.ListComp elt [⟨tg, iter, ifs, 0⟩] scope pos) (yLc src g tt te (own.map (·.2))) := by
  obtain ⟨wi, h, k⟩ := hi.wi
  refine PE.imp (pe_lc hc hN h ok (fun s H C cl fp => PG.up (hg s H C cl fp)) (fun s H C cl fp => PTs.up (ht s H C cl fp)) (fun s H C cl fp => PE.up (he s H C cl fp)) hs) fun σ H Q q => k σ H _ _ q fun n G Y H1 hh J w D hD => ?_
  exact lc_ends w D (hh D hD)
theorem j_lst {l : Expr} {tl : TE} (h : PE X l tl) : PSrc X tg l (jLst X.K tl) := ⟨_, pi_list (PE.up h), fun σ H R R' q k => ⟨_, q, fun x H1 q1 => by
  cases x <;> first | exact False.elim q1 | skip
  obtain ⟨xs, h1, q2⟩ := q1
  exact ⟨_, rfl, ⟨xs, h1⟩, k _ _ _ _ q2 _ walk_list⟩⟩⟩
theorem j_tup {l : Expr} {tl : TE} (h : PE X l tl) : PSrc X tg l (jTup X.K tl) := ⟨_, pi_tup (PE.up h), fun σ H R R' q k => ⟨_, q, fun x H1 q1 => by
  cases x <;> first | exact False.elim q1 | skip
  obtain ⟨xs, h1, q2⟩ := q1
  exact ⟨_, rfl, ⟨xs, h1⟩, k _ _ _ _ q2 _ walk_tup⟩⟩⟩
theorem j_str {l : Expr} {tl : TE} (h : PE X l tl) : PSrc X tg l (jStr tl) := ⟨_, pi_str (PE.up h), fun σ H R R' q k => ⟨_, q, fun x H1 q1 => by
  cases x <;> first | exact False.elim q1 | skip
  exact ⟨_, rfl, k _ _ _ _ q1 _ walk_str⟩⟩⟩
theorem j_rng {a : Expr} {ta : TE} {p pos : Pos} (hg : Gl X "range") (hm : X.mg "range" = none) (h : PE X a ta) (hs : starEach [a] X.env = [(false, eval a X.env)] := by rfl) : PSrc X tg (.Call (.Name "range" p) [a] [] pos) (jRng ta) := ⟨_, pi_range1 hg hm (pa_cons (PE.up h) pa_nil hs) hs, fun σ H R R' q k => ⟨_, q, fun x H1 q1 => by
  cases x <;> first | exact False.elim q1 | skip
  obtain ⟨h1, h2, q2⟩ := q1
  exact ⟨_, rfl, h1, h2, k _ _ _ _ q2 _ walk_range⟩⟩⟩
theorem j_rng2 {a b : Expr} {ta tb : TE} {p pos : Pos} (hg : Gl X "range") (hm : X.mg "range" = none) (ha : PE X a ta) (hb : PE X b tb) (hs : starEach [a, b] X.env = (false, eval a X.env) :: starEach [b] X.env := by rfl) (hs2 : starEach [b] X.env = (false, eval b X.env) :: starEach [] X.env := by rfl) (hpl : (backTo pos (starEach [b] X.env)).any (·.1) = false := by rfl) : PSrc X tg (.Call (.Name "range" p) [a, b] [] pos) (jRng2 ta tb) := ⟨_, pi_range2 hg hm (pa_cons (PE.up ha) (pa_cons (PE.up hb) pa_nil hs2) hs) (by rw [hs, hs2]; rfl) hs2, fun σ H R R' q k => ⟨_, q, fun x H1 q1 => ⟨_, q1, fun y H2 q2 => by
  cases x <;> cases y <;> first | exact False.elim q2 | skip
  obtain ⟨h1, q3⟩ := q2
  exact ⟨_, _, rfl, h1, k _ _ _ _ q3 _ walk_range⟩⟩⟩⟩
theorem j_enum {e : Expr} {te : TE} {p pos tpos : Pos} {elts : List Expr} {kk : Nat} (hg : Gl X "enumerate") (hm : X.mg "enumerate" = none) (h : PE X e te) (hs : starEach [e] X.env = [(false, eval e X.env)] := by rfl) : PSrc X (.Tuple elts kk tpos) (.Call (.Name "enumerate" p) [e] [] pos) (jEnum X.K te) := ⟨_, pi_enum hg hm (pa_cons (PE.up h) pa_nil hs) hs, fun σ H R R' q k => ⟨_, q, fun x H1 q1 => by
  cases x <;> first | exact False.elim q1 | skip
  obtain ⟨xs, h1, q2⟩ := q1
  exact ⟨_, xs, rfl, h1, k _ _ _ _ q2 _ walk_enum⟩⟩⟩
theorem j_zip {a b : Expr} {ta tb : TE} {p pos tpos : Pos} {elts : List Expr} {kk : Nat} (hg : Gl X "zip") (hm : X.mg "zip" = none) (ha : PE X a ta) (hb : PE X b tb) (hs : starEach [a, b] X.env = (false, eval a X.env) :: starEach [b] X.env := by rfl) (hs2 : starEach [b] X.env = (false, eval b X.env) :: starEach [] X.env := by rfl) (hpl : (backTo pos (starEach [b] X.env)).any (·.1) = false := by rfl) : PSrc X (.Tuple elts kk tpos) (.Call (.Name "zip" p) [a, b] [] pos) (jZip X.K ta tb) := ⟨_, pi_zip hg hm (pa_cons (PE.up ha) (pa_cons (PE.up hb) pa_nil hs2) hs) hs hpl, fun σ H R R' q k => ⟨_, q, fun x H1 q1 => ⟨_, q1, fun y H2 q2 => by
  cases x <;> cases y <;> first | exact False.elim q2 | skip
  obtain ⟨xs, ys, h1, h2, q3⟩ := q2
  exact ⟨_, _, xs, ys, rfl, h1, h2, k _ _ _ _ q3 _ (walk_zip rfl)⟩⟩⟩⟩
end
end Eb

namespace Eb
open PySem PySem.Spec PyProof.Rows L2
/-! ### while -/
def yWhile (c : TT) (tb : TS) : TS := fun D σ H => ∃ Pv : Nat → L2.St → Hp → Prop, (∃ m, Pv m σ H) ∧ ∀ m σ H, Pv m σ H → c σ H fun b H1 =>
  yBr b (tb { D with nx := fun σ' H' => ∃ m', m' < m ∧ Pv m' σ' H', ct := fun σ' H' => ∃ m', m' < m ∧ Pv m' σ' H', bk := D.nx } σ H1) (D.nx σ H1)
theorem ys_while {X : Cx} {c : Expr} {body : List Stmt} {tc : TT} {tb : TS} {pos : Pos} (hp : PassesOwn (model X.prog X.w) X.A X.env X.xe) (hc : PT X c tc) (hb : PSs X body tb) : PS X (.While c body [] pos) (yWhile tc tb) :=
  PS.imp (ps_while hp (PT.up hc) hb) fun D σ H ⟨Pv, h0, h⟩ => ⟨Pv, h0, fun m σ1 H1 p => ⟨_, h m σ1 H1 p, fun b H2 q => by
    rw [yBr_def] at q
    cases b with
    | true => exact ⟨fun σ' H' => ∃ m', m' < m ∧ Pv m' σ' H', fun σ' H' z => z, q⟩
    | false => exact q⟩⟩
/-! ### ways that meet -/
def yCut (t u : TS) : TS := fun D σ H => ∃ Mid : L2.St → Hp → Prop, t { D with nx := Mid } σ H ∧ ∀ σ' H', Mid σ' H' → u D σ' H'
theorem ys_cut {X : Cx} {st : Stmt} {rest : List Stmt} {t u : TS} (h1 : PS X st t) (h2 : PSs X rest u) : PSs X (st :: rest) (yCut t u) := by
  refine ⟨fun pins s σ H D I ⟨Mid, q1, q2⟩ => wpAny_execs_cons (thn (h1.run pins s σ H { D with nx := Mid } I q1) fun f s1 q => ?_)⟩
  cases f with
  | next =>
    obtain ⟨σ', H', I', m⟩ := q
    exact h2.run pins s1 σ' H' D I' (q2 σ' H' m)
  | brk => exact q
  | cont => exact q
  | ret u => exact q
/-! ### built-ins by name -/
/-- no name of the module hides a built-in -/
structure Blt (mg : Str → Option Value) : Prop where
  abs : mg "abs" = none
  all : mg "all" = none
  dict : mg "dict" = none
  enumerate : mg "enumerate" = none
  int : mg "int" = none
  isinstance : mg "isinstance" = none
  len : mg "len" = none
  list : mg "list" = none
  max : mg "max" = none
  min : mg "min" = none
  range : mg "range" = none
  repr : mg "repr" = none
  set : mg "set" = none
  sorted : mg "sorted" = none
  str : mg "str" = none
  sum : mg "sum" = none
  super : mg "super" = none
  tuple : mg "tuple" = none
  zip : mg "zip" = none
  ve : mg "ValueError" = none
  te : mg "TypeError" = none
def zInt : List V → Hp → VK → Prop := fun xs H Q => match xs with
  | [.int i] => Q (.int i) H
  | [.bl k] => Q (.int (if k then 1 else 0)) H
  | _ => False
def zAbs : List V → Hp → VK → Prop := fun xs H Q => match xs with
  | [.int i] => Q (.int (if i < 0 then -i else i)) H
  | _ => False
/-- len of a list, a tuple, a text -/
def zLen (K : PySem.W.Frag) : List V → Hp → VK → Prop := fun xs H Q => match xs with
  | [.ref p] => ∃ ys, (SqL K H p ys ∨ SqT K H p ys) ∧ Q (.int ys.length) H
  | [.str z] => z.length ≤ sizeLine ∧ Q (.int z.length) H
  | _ => False
def zLenD : List V → Hp → VK → Prop := fun xs H Q => match xs with
  | [.ref p] => ∃ kvs, H p = some (.dK kvs) ∧ Q (.int kvs.length) H
  | _ => False
def zList (K : PySem.W.Frag) : List V → Hp → VK → Prop := fun xs H Q => match xs with
  | [.ref p] => ∃ ys, (SqL K H p ys ∨ SqT K H p ys) ∧ ∀ l, H l = none → Q (.ref l) (upd H l (.lst ys))
  | _ => False
def zTuple (K : PySem.W.Frag) : List V → Hp → VK → Prop := fun xs H Q => match xs with
  | [.ref p] => ∃ ys, (SqL K H p ys ∧ ∀ l, H l = none → Q (.ref l) (upd H l (.tup ys))) ∨ (SqT K H p ys ∧ Q (.ref p) H)
  | _ => False
def zMax : List V → Hp → VK → Prop := fun xs H Q => match xs with
  | [.int i, .int j] => Q (.int (if j > i then j else i)) H
  | _ => False
def zMin : List V → Hp → VK → Prop := fun xs H Q => match xs with
  | [.int i, .int j] => Q (.int (if j < i then j else i)) H
  | _ => False
def zStrI : List V → Hp → VK → Prop := fun xs H Q => match xs with
  | [.int i] => i.natAbs.log2 < 1920 ∧ Q (.str (toString i)) H
  | _ => False
/-- all of a list of truth values -/
def zAll (K : PySem.W.Frag) : List V → Hp → VK → Prop := fun xs H Q => match xs with
  | [.ref a] => ∃ bs : List Bool, SqL K H a (bs.map V.bl) ∧ Q (.bl (bs.all id)) H
  | _ => False
def zSum (K : PySem.W.Frag) : List V → Hp → VK → Prop := fun xs H Q => match xs with
  | [.ref a] => ∃ ns : List Int, SqL K H a (ns.map V.int) ∧ Q (.int ns.sum) H
  | _ => False
section
variable {X : Cx}
theorem cr_int : CallR X (.type "int") zInt := CallR.imp call_int1 fun xs H Q q => by
  unfold zInt at q
  split at q
  · exact .inl ⟨_, rfl, q⟩
  · exact .inr ⟨_, rfl, q⟩
  · exact q.elim
theorem cr_abs : CallR X (.builtin "abs") zAbs := CallR.imp call_abs fun xs H Q q => by
  unfold zAbs at q
  split at q
  · exact ⟨_, rfl, q⟩
  · exact q.elim
theorem cr_len : CallR X (.builtin "len") (zLen X.K) := CallR.imp call_len fun xs H Q q => by
  unfold zLen at q
  split at q
  · obtain ⟨ys, h | h, q⟩ := q
    · exact ⟨_, _, rfl, .inl ⟨ys, h, rfl⟩, q⟩
    · exact ⟨_, _, rfl, .inr ⟨ys, h, rfl⟩, q⟩
  · exact ⟨_, _, rfl, ⟨q.1, rfl⟩, q.2⟩
  · exact q.elim
theorem cr_lenD : CallR X (.builtin "len") zLenD := CallR.imp call_lenD fun xs H Q q => by
  unfold zLenD at q
  split at q
  · obtain ⟨kvs, h, q⟩ := q
    exact ⟨_, kvs, rfl, h, q⟩
  · exact q.elim
theorem cr_list : CallR X (.type "list") (zList X.K) := CallR.imp call_list_of fun xs H Q q => by
  unfold zList at q
  split at q
  · obtain ⟨ys, h, q⟩ := q
    exact ⟨_, ys, rfl, h, q⟩
  · exact q.elim
theorem cr_tuple : CallR X (.type "tuple") (zTuple X.K) := CallR.imp call_tuple_of fun xs H Q q => by
  unfold zTuple at q
  split at q
  · obtain ⟨ys, q⟩ := q
    exact ⟨_, ys, rfl, q⟩
  · exact q.elim
theorem cr_max (hc : X.calm = true) : CallR X (.builtin "max") zMax := CallR.imp (call_max2 hc) fun xs H Q q => by
  unfold zMax at q
  split at q
  · exact ⟨_, _, rfl, q⟩
  · exact q.elim
theorem cr_min (hc : X.calm = true) : CallR X (.builtin "min") zMin := CallR.imp (call_min2 hc) fun xs H Q q => by
  unfold zMin at q
  split at q
  · exact ⟨_, _, rfl, q⟩
  · exact q.elim
theorem cr_strI : CallR X (.type "str") zStrI := CallR.imp call_str_int fun xs H Q q => by
  unfold zStrI at q
  split at q
  · exact ⟨_, rfl, q⟩
  · exact q.elim
end
/-! ### methods of built-in types -/
def zApp : V → List V → Hp → VK → Prop := fun x vs H Q => match x, vs with
  | .ref l, [y] => ∃ xs, H l = some (.lst xs) ∧ xs.length < sizeLine ∧ Q .non (upd H l (.lst (xs ++ [y])))
  | _, _ => False
def zPopAt : V → List V → Hp → VK → Prop := fun x vs H Q => match x, vs with
  | .ref l, [.int i] => ∃ xs k y, H l = some (.lst xs) ∧ -(2 ^ 63) ≤ i ∧ i < 2 ^ 63 ∧ seqIndex? i xs.length = some k ∧ xs[k]? = some y ∧ Q y (upd H l (.lst (xs.eraseIdx k)))
  | _, _ => False
def zPop : V → List V → Hp → VK → Prop := fun x vs H Q => match x, vs with
  | .ref l, [] => ∃ xs y, H l = some (.lst xs) ∧ xs[xs.length - 1]? = some y ∧ Q y (upd H l (.lst xs.dropLast))
  | _, _ => False
/-- sep.join(texts) -/
def zJoin (K : PySem.W.Frag) : V → List V → Hp → VK → Prop := fun x xs H Q => match x, xs with
  | .str a, [.ref p] => ∃ ys : List Str, (SqL K H p (ys.map V.str) ∨ SqT K H p (ys.map V.str)) ∧ (ys.map (·.length)).sum + ys.length * a.length ≤ 16777216 ∧ Q (.str (Txt.join a ys)) H
  | _, _ => False
/-- text.split(sep) -/
def zSplit : V → List V → Hp → VK → Prop := fun x xs H Q => match x, xs with
  | .str a, [.str b] => (b.length == 0) = false ∧ a.length + 2 ≤ sizeLine ∧ ∀ p, H p = none → Q (.ref p) (upd H p (.lst ((Txt.split a b).map V.str)))
  | _, _ => False
section
variable {X : Cx}
theorem mt_zApp : MtR X "list.append" zApp := MtR.imp mt_append fun x xs H Q q => by
  unfold zApp at q
  split at q
  · obtain ⟨xs, h1, h2, q⟩ := q
    exact ⟨_, xs, _, rfl, rfl, h1, h2, q⟩
  · exact q.elim
theorem mt_zPopAt : MtR X "list.pop" zPopAt := MtR.imp mt_popAt fun x xs H Q q => by
  unfold zPopAt at q
  split at q
  · obtain ⟨xs, k, y, h1, h2, h3, h4, h5, q⟩ := q
    exact ⟨_, xs, _, k, y, rfl, rfl, h1, h2, h3, h4, h5, q⟩
  · exact q.elim
theorem mt_zPop : MtR X "list.pop" zPop := MtR.imp mt_pop fun x xs H Q q => by
  unfold zPop at q
  split at q
  · obtain ⟨xs, y, h1, h2, q⟩ := q
    exact ⟨_, xs, y, rfl, rfl, h1, h2, q⟩
  · exact q.elim
theorem mt_zJoin : MtR X "str.join" (zJoin X.K) := MtR.imp mt_join fun x xs H Q q => by
  unfold zJoin at q
  split at q
  · obtain ⟨ys, h1, h2, q⟩ := q
    exact ⟨_, _, ys, rfl, rfl, h1, h2, q⟩
  · exact q.elim
theorem mt_zSplit : MtR X "str.split" zSplit := MtR.imp mt_split fun x xs H Q q => by
  unfold zSplit at q
  split at q
  · obtain ⟨h1, h2, q⟩ := q
    exact ⟨_, _, rfl, rfl, h1, h2, q⟩
  · exact q.elim
end
/-! ### slices -/
def zSlL (K : PySem.W.Frag) : V → Option Int → Option Int → Hp → VK → Prop := fun x lo hi H Q => match x with
  | .ref a => ∃ xs, SqL K H a xs ∧ ∀ p, H p = none → Q (.ref p) (upd H p (.lst (cutV xs lo hi)))
  | _ => False
def zSlT (K : PySem.W.Frag) : V → Option Int → Option Int → Hp → VK → Prop := fun x lo hi H Q => match x with
  | .ref a => ∃ xs, SqT K H a xs ∧ (HT.sIx xs.length 0 lo = 0 ∧ HT.sIx xs.length xs.length hi = xs.length → Q (.ref a) H) ∧
    (¬ (HT.sIx xs.length 0 lo = 0 ∧ HT.sIx xs.length xs.length hi = xs.length) → ∀ p, H p = none → Q (.ref p) (upd H p (.tup (cutV xs lo hi))))
  | _ => False
def zSlS : V → Option Int → Option Int → Hp → VK → Prop := fun x lo hi H Q => match x with
  | .str z => z.length ≤ sizeLine ∧ Q (.str (cutS z lo hi)) H
  | _ => False
section
variable {X : Cx}
theorem SlR.imp {r r' : V → Option Int → Option Int → Hp → VK → Prop} (h : SlR X r) (k : ∀ x lo hi H Q, r' x lo hi H Q → r x lo hi H Q) : SlR X r' := fun pins s σ H x v vl vu lo hi sl Q I rx hs pl pu q => h pins s σ H x v vl vu lo hi sl Q I rx hs pl pu (k x lo hi H Q q)
theorem sl_zL : SlR X (zSlL X.K) := SlR.imp sl_list fun x lo hi H Q q => by
  cases x <;> first | exact q.elim | skip
  obtain ⟨xs, h, q⟩ := q
  exact ⟨_, xs, rfl, h, q⟩
theorem sl_zT : SlR X (zSlT X.K) := SlR.imp sl_tupA fun x lo hi H Q q => by
  cases x <;> first | exact q.elim | skip
  obtain ⟨xs, h, q⟩ := q
  exact ⟨_, xs, rfl, h, q⟩
theorem sl_zS : SlR X zSlS := SlR.imp sl_str fun x lo hi H Q q => by
  cases x <;> first | exact q.elim | skip
  exact ⟨_, rfl, q.1, q.2⟩
end
/-! ### two or three names at once -/
def yPar (i j : Nat) (ta : TA) : TS := fun D σ H => ta σ H fun vs H1 => match vs with
  | [v, w] => D.nx ((σ.set i (some v)).set j (some w)) H1
  | _ => False
theorem ys_par {X : Cx} {i j : Nat} {st : Stmt} {ta : TA} (h : PS X st (tPar i j (upA ta))) : PS X st (yPar i j ta) :=
  PS.imp h fun D σ H q => ⟨_, q, fun vs H1 q1 => by
    match vs, q1 with
    | [v, w], q1 => exact ⟨v, w, rfl, q1⟩⟩
/-- x += e -/
def yAug (i : Nat) (te : TE) (ti : R2) : TS := fun D σ H => match σ[i]? with
  | some (some x) => te σ H fun y H1 => ti x y H1 fun z H2 => D.nx (σ.set i (some z)) H2
  | _ => False
theorem ys_aug {X : Cx} {i : Nat} {x : Str} {e : Expr} {te : TE} {op : Operator} {ti : R2} {pos' pos : Pos} (hN : X.N.Nodup) (hi : X.N[i]? = some x) (hx : Loc X.env.scope x) (he : PE X e te) (ho : OpR X (inplaceOp op) ti) (hf : X.fn x = true ∨ X.env.scope.names.lookup x = some .local := by first | exact .inl rfl | exact .inr rfl | assumption) :
    PS X (.AugAssign (.Name x pos') op e pos) (yAug i te ti) := PS.imp (ps_aug (ti := ti) hN hi hx he ho hf) fun D σ H q => by
  unfold yAug at q
  split at q
  · rename_i v e
    exact ⟨v, e, q⟩
  · exact q.elim
/-! ### callees -/
/-- a def of the module under its name -/
structure Cal (P : Program) (w : World) (K : PySem.W.Frag) (mg : Str → Option Value) (base : Heap) (x : Str) (k : Nat) (ps : List Str) (sp : Sp) : Prop where
  ex : ∃ f fd, FnOk P w K mg base (L2.CX P w) k f fd ps sp ∧ mg x = some (.ref f) ∧ PySem.W.keepIn K (.ref f) = true ∧ Binds K fd ps []
/-- f(..), what it raises goes to E -/
abbrev yCall (sp : Sp) (E : XK) (t : TA) : TE := fun σ H Q => t σ H fun vs H1 => sp vs H1 Q E
/-- f(..) whose exceptions are wished for at the slots -/
abbrev yCallS (sp : Sp) (W : WX) (t : TA) : TE := fun σ H Q => t σ H fun vs H1 => sp vs H1 Q fun cls d H' => W cls d σ H'
section
variable {X : Cx} {x : Str} {k : Nat} {ps : List Str} {sp : Sp} {t : TA} {e : Expr} {es : List Expr} {p pos : Pos}
theorem ye_call (F : Cal X.prog X.w X.K X.mg X.base x k ps sp) (hr : Room k X.A) (hg : Gl X x) (ha : PA X (e :: es) t) (hdb : (x == ("__debug__" : Str)) = false := by decide)
    (he : starEach (e :: es) X.env = (false, eval e X.env) :: starEach es X.env := by rfl) (hpl : (backTo pos (starEach es X.env)).any (·.1) = false := by rfl) : PE X (.Call (.Name x p) (e :: es) [] pos) (yCall sp E0 t) := by
  obtain ⟨f, fd, h1, h2, h3, h4⟩ := F.ex
  exact PE.imp (pe_call h1 hr hg h2 h3 h4 .nil passL (PA.up ha) hdb he hpl) fun σ H Q q => ⟨_, q, fun vs H' q' => by
    show sp (vs ++ []) H' Q E0
    rw [List.append_nil]
    exact q'⟩
theorem ye_call0 (F : Cal X.prog X.w X.K X.mg X.base x k ps sp) (hr : Room k X.A) (hg : Gl X x) (hdb : (x == ("__debug__" : Str)) = false := by decide) : PE X (.Call (.Name x p) [] [] pos) (yCall sp E0 tNil) := by
  obtain ⟨f, fd, h1, h2, h3, h4⟩ := F.ex
  exact pe_call0 h1 hr hg h2 h3 h4 .nil passL hdb
theorem ye_callS {W : WX} (F : Cal X.prog X.w X.K X.mg X.base x k ps sp) (tk : Takes X W) (hr : Room k X.A) (hg : Gl X x) (ha : PA X (e :: es) t) (hdb : (x == ("__debug__" : Str)) = false := by decide)
    (he : starEach (e :: es) X.env = (false, eval e X.env) :: starEach es X.env := by rfl) (hpl : (backTo pos (starEach es X.env)).any (·.1) = false := by rfl) : PE X (.Call (.Name x p) (e :: es) [] pos) (yCallS sp W t) := by
  obtain ⟨f, fd, h1, h2, h3, h4⟩ := F.ex
  exact pe_callS h1 hr hg h2 h3 h4 (fun σ => passAt tk σ) ha hdb he hpl
end
end Eb

/-! The source of the laws' draws. -/
namespace Eb
open PySem PySem.Spec PyProof.Rows L2
def penKvs (c : Addr) (t l : Int) : List (Key × V) := [(Sum.inr "cells", .ref c), (Sum.inr "turn", .int t), (Sum.inr "left", .int l)]
def isPen : HO → Prop
  | .dK kvs => ∃ c t l, kvs = penKvs c t l
  | _ => False
/-- all that is tracked stays, but what pens hold -/
def Kp (H H' : Hp) : Prop := ∀ b o, H b = some o → ∃ o', H' b = some o' ∧ (¬ isPen o → o' = o)
theorem Kp.keep {H H' : Hp} (k : Kp H H') {b : Addr} {o : HO} (h : H b = some o) (n : ¬ isPen o) : H' b = some o := by
  obtain ⟨o', e, q⟩ := k b o h
  rw [q n] at e
  exact e
theorem Kp.back {H H' : Hp} (k : Kp H H') {b : Addr} (h : H' b = none) : H b = none := by
  cases e : H b with
  | none => rfl
  | some o =>
    obtain ⟨o', e', _⟩ := k b o e
    rw [h] at e'
    cases e'
theorem Kp.refl (H : Hp) : Kp H H := fun _ o h => ⟨o, h, fun _ => rfl⟩
theorem Kp.trans {H H1 H2 : Hp} (a : Kp H H1) (b : Kp H1 H2) : Kp H H2 := fun c o h => by
  obtain ⟨o1, e1, q1⟩ := a c o h
  obtain ⟨o2, e2, q2⟩ := b c o1 e1
  exact ⟨o2, e2, fun n => by
    have z := q1 n
    subst z
    exact q2 n⟩
/-- an object that was not tracked at first is laid or changed -/
theorem Kp.mut {H H' : Hp} {p : Addr} {o : HO} (e : Kp H H') (h : H p = none) : Kp H (upd H' p o) := fun b u hb => by
  rw [upd_ne (ne_of_none hb h)]
  exact e b u hb
theorem Kp.new {H : Hp} {p : Addr} {o : HO} (h : H p = none) : Kp H (upd H p o) := (Kp.refl H).mut h
theorem Kp.of {H H' : Hp} (k : ∀ b o, H b = some o → H' b = some o) : Kp H H' := fun b o h => ⟨o, k b o h, fun _ => rfl⟩
theorem Kp.lst {H H' : Hp} (k : Kp H H') {a : Addr} {xs : List V} (h : H a = some (.lst xs)) : H' a = some (.lst xs) := k.keep h fun z => z
theorem Kp.tup {H H' : Hp} (k : Kp H H') {a : Addr} {xs : List V} (h : H a = some (.tup xs)) : H' a = some (.tup xs) := k.keep h fun z => z
theorem Kp.ins {H H' : Hp} (k : Kp H H') {a C dx : Addr} {fs : List (Str × V)} (h : H a = some (.ins C dx fs)) : H' a = some (.ins C dx fs) := k.keep h fun z => z
theorem Kp.frz {H H' : Hp} (k : Kp H H') {a : Addr} {o : Obj} {u : HO} (h : H a = some (.frz o u)) : H' a = some (.frz o u) := k.keep h fun z => z
theorem Kp.sqL {K : PySem.W.Frag} {H H' : Hp} {a : Addr} {xs : List V} (e : Kp H H') (h : SqL K H a xs) : SqL K H' a xs := by
  rcases h with (h | ⟨o, h⟩) | h
  · exact .inl (.inl (e.lst h))
  · exact .inl (.inr ⟨o, e.frz h⟩)
  · exact .inr h
theorem Kp.sqT {K : PySem.W.Frag} {H H' : Hp} {a : Addr} {xs : List V} (e : Kp H H') (h : SqT K H a xs) : SqT K H' a xs := by
  rcases h with (h | ⟨o, h⟩) | h
  · exact .inl (.inl (e.tup h))
  · exact .inl (.inr ⟨o, e.frz h⟩)
  · exact .inr h
theorem kc1 : ¬ (("cells" : Str) = "turn") := by decide +kernel
theorem kc2 : ¬ (("cells" : Str) = "left") := by decide +kernel
theorem kc3 : ¬ (("turn" : Str) = "left") := by decide +kernel
theorem kc4 : ¬ (("turn" : Str) = "cells") := by decide +kernel
theorem kc5 : ¬ (("left" : Str) = "cells") := by decide +kernel
theorem kc6 : ¬ (("left" : Str) = "turn") := by decide +kernel
section
variable {c : Addr} {t l i : Int}
theorem pen_cells : valV (penKvs c t l) (Sum.inr "cells") = some (.ref c) := by simp [valV, penKvs]
theorem pen_turn : valV (penKvs c t l) (Sum.inr "turn") = some (.int t) := by simp [valV, penKvs, kc1]
theorem pen_left : valV (penKvs c t l) (Sum.inr "left") = some (.int l) := by simp [valV, penKvs, kc2, kc3]
theorem pen_putL : putK (penKvs c t l) (Sum.inr "left") (.int i) = penKvs c t i := by simp [putK, penKvs, kc2, kc3]
theorem pen_putT : putK (penKvs c t l) (Sum.inr "turn") (.int i) = penKvs c i l := by simp [putK, penKvs, kc1, kc6]
theorem pen_small : (penKvs c t l).length < sizeLine := by show 3 < sizeLine; decide
end
/-- a pen stands at p, its cells at c; at most n draws were made -/
structure PenAt (H : Hp) (p c : Addr) (n : Nat) : Prop where
  ex : ∃ (t l : Int) (ns : List Int), H p = some (.dK (penKvs c t l)) ∧ H c = some (.lst (ns.map V.int)) ∧ 0 ≤ t ∧ t ≤ n
theorem PenAt.mono {H : Hp} {p c : Addr} {n m : Nat} (h : PenAt H p c n) (k : n ≤ m) : PenAt H p c m := by
  obtain ⟨t, l, ns, h1, h2, h3, h4⟩ := h.ex
  exact ⟨t, l, ns, h1, h2, h3, by omega⟩
theorem PenAt.mut {H : Hp} {p c q : Addr} {n : Nat} {o : HO} (h : PenAt H p c n) (hp : p ≠ q) (hc : c ≠ q) : PenAt (upd H q o) p c n := by
  obtain ⟨t, l, ns, h1, h2, h3, h4⟩ := h.ex
  exact ⟨t, l, ns, by rw [upd_ne hp]; exact h1, by rw [upd_ne hc]; exact h2, h3, h4⟩
theorem PenAt.ne {H : Hp} {p c q : Addr} {n : Nat} (h : PenAt H p c n) (hq : H q = none) : p ≠ q ∧ c ≠ q := by
  obtain ⟨t, l, ns, h1, h2, h3, h4⟩ := h.ex
  exact ⟨ne_of_none h1 hq, ne_of_none h2 hq⟩
theorem PenAt.new {H : Hp} {p c q : Addr} {n : Nat} {o : HO} (h : PenAt H p c n) (hq : H q = none) : PenAt (upd H q o) p c n := h.mut (h.ne hq).1 (h.ne hq).2
def dataV : V → PyData
  | .non => .none
  | .bl b => .bool b
  | .int i => .int i
  | .str x => .str x
  | _ => .none
theorem dpAll_flat {K : PySem.W.Frag} {H : Hp} : ∀ {xs : List V}, xs.all flatV = true → DpAll K H xs (xs.map dataV)
  | [], _ => .nil
  | x :: r, h => by
    have h2 : flatV x = true ∧ r.all flatV = true := by simpa using h
    refine .cons ?_ (dpAll_flat h2.2)
    cases x <;> first | exact .non | exact .bl _ | exact .int _ | exact .str _ | exact absurd h2.1 (by simp [flatV])
/-- a text that is data: its signs are signs -/
def okV : V → Bool
  | .str z => PyData.canLay0 (.str z)
  | _ => true
theorem lay_flat : ∀ {xs : List V}, xs.all okV = true → PyData.canLayAll0 (xs.map dataV) = true
  | [], _ => rfl
  | x :: r, h => by
    have h2 : okV x = true ∧ r.all okV = true := by simpa using h
    have ih := lay_flat h2.2
    show (PyData.canLay0 (dataV x) && PyData.canLayAll0 (r.map dataV)) = true
    rw [ih, Bool.and_true]
    cases x <;> first | rfl | exact h2.1
theorem depth_flat : ∀ xs : List V, PyData.depthAll (xs.map dataV) = 0
  | [] => rfl
  | x :: r => by
    show max (PyData.depth (dataV x)) (PyData.depthAll (r.map dataV)) = 0
    rw [depth_flat r]
    cases x <;> rfl
theorem shaped_flatL {xs : List V} (h : xs.all okV = true) : SeqAt.shaped (.list (xs.map dataV)) = true := by
  show (PyData.canLayAll0 (xs.map dataV) && decide (PyData.depthAll (xs.map dataV) + 1 ≤ 64)) = true
  rw [lay_flat h, depth_flat] <;> rfl
theorem shaped_flatT {xs : List V} (h : xs.all okV = true) : SeqAt.shaped (.tuple (xs.map dataV)) = true := by
  show (PyData.canLayAll0 (xs.map dataV) && decide (PyData.depthAll (xs.map dataV) + 1 ≤ 64)) = true
  rw [lay_flat h, depth_flat] <;> rfl
theorem all_ints {ns : List Int} : (ns.map V.int).all flatV = true := by simp [flatV]
theorem ok_ints {ns : List Int} : (ns.map V.int).all okV = true := by simp [okV]
/-! ### a draw -/
def sp_draw (_ : PySem.W.Frag) : Sp := fun vs H Q _ => ∃ (p c : Addr) (n : Nat) (s : Int), vs = [.ref p, .int s] ∧ PenAt H p c n ∧ n < 1152921504606846976 ∧ 0 < s ∧ s.natAbs.log2 < 9000 ∧
  ∀ (r : Int) (H' : Hp), 0 ≤ r → r < s → Kp H H' → PenAt H' p c (n + 1) → Q (.int r) H'
def N_draw : List Str := ["_law_pen", "_law_span", "_law_digit", "_law_turn", "_law_cell", "_law_mixed"]
def t_draw (K : PySem.W.Frag) (E : XK) : TS :=
  (tSeq (yIf (yTst (tOp zGt (yDGet (yVar 0) (tC (.str "left"))) (tC (.int 0)))) (tSeq (tAsg (tOp zMod (tCB zInt (tCons (yDGet (yVar 0) (tC (.str "left"))) tNil)) (yVar 1)) (gName 2))
    (tSeq (yDPut (yVar 0) (tC (.str "left")) (tOp zDiv (yDGet (yVar 0) (tC (.str "left"))) (yVar 1)))
    (tRet (yVar 2)))) tNext)
    (tSeq (tAsg (yDGet (yVar 0) (tC (.str "turn"))) (gName 3))
    (tSeq (yDPut (yVar 0) (tC (.str "turn")) (tOp zAdd (yVar 3) (tC (.int 1))))
    (tSeq (tAsg (tOp zAdd (tOp zMul (tC (.int 61)) (yVar 3)) (tC (.int 13))) (gName 4))
    (yCut (yIf (yTst (tOp (zNeD K) (yDGet (yVar 0) (tC (.str "cells"))) (tLst tNil))) (tAsg (tOp (zIxL K) (yDGet (yVar 0) (tC (.str "cells"))) (tOp zMod (tCB zInt (tCons (yVar 3) tNil)) (tCB (zLen K) (tCons (yDGet (yVar 0) (tC (.str "cells"))) tNil)))) (gName 4)) tNext)
    (tSeq (yIf (yAnd (yTst (tOp zLt (yVar 3) (tCB (zLen K) (tCons (yDGet (yVar 0) (tC (.str "cells"))) tNil)))) (yTst (tOp zGe (tCB zAbs (tCons (yVar 4) tNil)) (tOp zPow (tC (.int 10)) (tC (.int 18)))))) (tSeq (yDPut (yVar 0) (tC (.str "left")) (tOp zDiv (tOp zSub (tCB zAbs (tCons (yVar 4) tNil)) (tOp zPow (tC (.int 10)) (tC (.int 18)))) (yVar 1)))
    (tRet (tOp zMod (tCB zInt (tCons (tOp zSub (tCB zAbs (tCons (yVar 4) tNil)) (tOp zPow (tC (.int 10)) (tC (.int 18)))) tNil)) (yVar 1)))) tNext)
    (tSeq (tAsg (tOp zMul (tOp zMod (tCB zInt (tCons (yVar 4) tNil)) (tC (.int 4294967087))) (tC (.int 48611))) (gName 5))
    (tSeq (tAsg (tOp zMod (tCB zInt (tCons (tOp zAdd (tOp zAdd (yVar 5) (tOp zMul (yVar 3) (tOp zAdd (tOp zMul (yVar 3) (tC (.int 27919))) (tC (.int 10601))))) (tC (.int 41))) tNil)) (tC (.int 4294967029))) (gName 5))
    (tSeq (tAsg (tOp zMod (tCB zInt (tCons (tOp zMul (yVar 5) (tOp zAdd (yVar 5) (tC (.int 75013)))) tNil)) (tC (.int 4294966997))) (gName 5))
    (tSeq (tAsg (tOp zMod (tCB zInt (tCons (tOp zAdd (tOp zAdd (tOp zMul (yVar 5) (yVar 5)) (tOp zMul (tC (.int 30427)) (yVar 5))) (tOp zMul (tC (.int 19)) (yVar 3))) tNil)) (tC (.int 4294966981))) (gName 5))
    (tRet (tOp zMod (tCB zInt (tCons (tOp zDiv (tOp zMod (tCB zInt (tCons (tOp zMul (yVar 5) (tOp zAdd (yVar 5) (tC (.int 58111)))) tNil)) (tC (.int 4294966943))) (tC (.int 64))) tNil)) (yVar 1)))))))))))))
def t_draw_end : TS :=
    (tSeq (tAsg (tOp zMul (tOp zMod (tCB zInt (tCons (yVar 4) tNil)) (tC (.int 4294967087))) (tC (.int 48611))) (gName 5))
    (tSeq (tAsg (tOp zMod (tCB zInt (tCons (tOp zAdd (tOp zAdd (yVar 5) (tOp zMul (yVar 3) (tOp zAdd (tOp zMul (yVar 3) (tC (.int 27919))) (tC (.int 10601))))) (tC (.int 41))) tNil)) (tC (.int 4294967029))) (gName 5))
    (tSeq (tAsg (tOp zMod (tCB zInt (tCons (tOp zMul (yVar 5) (tOp zAdd (yVar 5) (tC (.int 75013)))) tNil)) (tC (.int 4294966997))) (gName 5))
    (tSeq (tAsg (tOp zMod (tCB zInt (tCons (tOp zAdd (tOp zAdd (tOp zMul (yVar 5) (yVar 5)) (tOp zMul (tC (.int 30427)) (yVar 5))) (tOp zMul (tC (.int 19)) (yVar 3))) tNil)) (tC (.int 4294966981))) (gName 5))
    (tRet (tOp zMod (tCB zInt (tCons (tOp zDiv (tOp zMod (tCB zInt (tCons (tOp zMul (yVar 5) (tOp zAdd (yVar 5) (tC (.int 58111)))) tNil)) (tC (.int 4294966943))) (tC (.int 64))) tNil)) (yVar 1)))))))
abbrev dEnd (Q : VK) : Ends := { nx := fun _ H' => Q .non H', rt := Q }
theorem pow18 : CPow 10 18 := by unfold CPow; decide
theorem small_mod {x m : Int} (h : 0 < m) (h2 : m < 2 ^ 40) : -(2 ^ 64) < x % m ∧ x % m < 2 ^ 64 := by
  have h1 := Int.emod_nonneg x (Int.ne_of_gt h)
  have h3 := Int.emod_lt_of_pos x h
  omega
theorem pure_draw {K : PySem.W.Frag} {vs : List V} {H : Hp} {Q : VK} {E : XK} (h : sp_draw K vs H Q E) : t_draw K E (dEnd Q) (start N_draw vs) H := by
  obtain ⟨p, c, n, s, rfl, hP, hn2, hs, hs2, k⟩ := h
  obtain ⟨t, l, ns, hp, hc, h0, hn⟩ := hP.ex
  have hcp : c ≠ p := ne_of hc hp (by intro z; cases z)
  have kpm : ∀ {H1 : Hp} o, Kp H H1 → Kp H (upd H1 p o) := fun {H1} o k b u e => by
    by_cases hb : b = p
    · subst hb
      refine ⟨o, upd_same, fun n => ?_⟩
      rw [hp] at e
      cases e
      exact absurd ⟨_, _, _, rfl⟩ n
    · rw [upd_ne hb]
      exact k b u e
  have kp : ∀ o, Kp H (upd H p o) := fun o => kpm o (Kp.refl H)
  have fin : ∀ (t' l' r : Int), 0 ≤ t' → t' ≤ (n + 1 : Nat) → ∀ H', Kp H H' → H' p = some (.dK (penKvs c t' l')) → 0 ≤ r → r < s → Q (.int r) H' := fun t' l' r h1 h2 H' k' e h3 h4 =>
    k r H' h3 h4 k' ⟨t', l', ns, e, k'.lst hc, h1, h2⟩
  refine ⟨_, _, .inl hp, pen_left, brD (fun hl => ?_) fun hl => ?_⟩
  · refine ⟨_, _, .inl hp, pen_left, hs, _, _, .inl hp, pen_left, ⟨hs, hs2⟩, _, hp, pen_small, ?_⟩
    exact fin t (l / s) (l % s) h0 (by omega) _ (kp _) (by rw [upd_same, pen_putL]) (Int.emod_nonneg _ (Int.ne_of_gt hs)) (Int.emod_lt_of_pos _ hs)
  · have q1 : ∀ v : V, (upd H p (.dK (putK (penKvs c t l) (Sum.inr "turn") v))) p = some (.dK (putK (penKvs c t l) (Sum.inr "turn") v)) := fun v => upd_same
    refine ⟨_, _, .inl hp, pen_turn, _, hp, pen_small, ?_⟩
    have e1 : (upd H p (.dK (putK (penKvs c t l) (Sum.inr "turn") (.int (t + 1))))) p = some (.dK (penKvs c (t + 1) l)) := by rw [upd_same, pen_putT]
    have e2 : (upd H p (.dK (putK (penKvs c t l) (Sum.inr "turn") (.int (t + 1))))) c = some (.lst (ns.map V.int)) := by rw [upd_ne hcp]; exact hc
    have k1 := kp (.dK (putK (penKvs c t l) (Sum.inr "turn") (.int (t + 1))))
    generalize upd H p (.dK (putK (penKvs c t l) (Sum.inr "turn") (.int (t + 1)))) = H1 at e1 e2 k1 ⊢
    have ht : -(2 ^ 64) < t ∧ t < 2 ^ 64 := by omega
    refine ⟨.inr ht, fun σ' H' => ∃ x : Int, σ' = [some (.ref p), some (.int s), none, some (.int t), some (.int x), none] ∧ Kp H H' ∧ H' p = some (.dK (penKvs c (t + 1) l)) ∧ H' c = some (.lst (ns.map V.int)), ?_, ?_⟩
    · refine ⟨_, _, .inl e1, pen_cells, Nat.zero_le _, fun q hq => ?_⟩
      have k2 : Kp H (upd H1 q (.lst [])) := k1.trans (Kp.new hq)
      have e3 : (upd H1 q (.lst [])) p = some (.dK (penKvs c (t + 1) l)) := by rw [upd_ne (ne_of_none e1 hq)]; exact e1
      have e4 : (upd H1 q (.lst [])) c = some (.lst (ns.map V.int)) := by rw [upd_ne (ne_of_none e2 hq)]; exact e2
      refine ⟨.list ((ns.map V.int).map dataV), .list [], .lst (SqL.of e4) (dpAll_flat all_ints), .lst (SqL.of upd_same) .nil, shaped_flatL ok_ints, by decide, ?_⟩
      · cases ns with
        | nil => exact brF (by decide) ⟨_, rfl, k2, e3, e4⟩
        | cons z r =>
          refine brT (by simp [PyData.eqv, PyData.eqvAll]) ?_
          have hl : (0 : Int) < (((z :: r).map V.int).length : Nat) := by simp
          obtain ⟨j, hj⟩ : ∃ j : Nat, t % ((((z :: r).map V.int).length : Nat) : Int) = (j : Int) := ⟨_, (Int.toNat_of_nonneg (Int.emod_nonneg _ (Int.ne_of_gt hl))).symm⟩
          have hjl : j < (z :: r).length := by
            have q := Int.emod_lt_of_pos t hl
            rw [hj, List.length_map] at q
            omega
          refine ⟨_, _, .inl e3, pen_cells, _, _, .inl e3, pen_cells, _, .inl (SqL.of e4), hl, _, .int ((z :: r)[j]'hjl), .inl (SqL.of e4), ?_, _, rfl, k2, e3, e4⟩
          show atI ((z :: r).map V.int) (t % ((((z :: r).map V.int).length : Nat) : Int)) = _
          rw [hj]
          refine atI_nat ?_
          rw [List.getElem?_map, List.getElem?_eq_getElem hjl]
          rfl
    · rintro σ' H' ⟨x, rfl, k3, e3, e4⟩
      have last : t_draw_end (dEnd Q) [some (.ref p), some (.int s), none, some (.int t), some (.int x), none] H' := by
        have m1 := small_mod (x := x) (m := 4294967087) (by decide) (by decide)
        refine ⟨by decide, .inl m1, .inl ht, .inl ht, by decide, ?_⟩
        generalize x % 4294967087 * 48611 + t * (t * 27919 + 10601) + 41 = y
        have m2 := small_mod (x := y) (m := 4294967029) (by decide) (by decide)
        refine ⟨.inl m2, by decide, ?_⟩
        generalize y % 4294967029 * (y % 4294967029 + 75013) = y
        have m3 := small_mod (x := y) (m := 4294966997) (by decide) (by decide)
        refine ⟨.inl m3, .inl (by decide), .inl (by decide), by decide, ?_⟩
        generalize y % 4294966997 * (y % 4294966997) + 30427 * (y % 4294966997) + 19 * t = y
        have m4 := small_mod (x := y) (m := 4294966981) (by decide) (by decide)
        refine ⟨.inl m4, by decide, ⟨by decide, by decide +kernel⟩, hs, ?_⟩
        exact fin (t + 1) l _ (by omega) (by omega) _ k3 e3 (Int.emod_nonneg _ (Int.ne_of_gt hs)) (Int.emod_lt_of_pos _ hs)
      refine ⟨_, _, .inl e3, pen_cells, _, .inl (SqL.of e4), br (fun hb => ?_) fun hb => ?_⟩
      · refine ⟨pow18, brD (fun hc2 => ?_) fun hc2 => ?_⟩
        · generalize (if x < 0 then -x else x) = a
          refine ⟨pow18, ⟨hs, hs2⟩, _, e3, pen_small, pow18, hs, ?_⟩
          refine fin (t + 1) _ _ (by omega) (by omega) _ (kpm _ k3) (by rw [upd_same, pen_putL]) (Int.emod_nonneg _ (Int.ne_of_gt hs)) (Int.emod_lt_of_pos _ hs)
        · exact last
      · exact brF rfl last
theorem len_draw {K : PySem.W.Frag} {vs : List V} {H : Hp} {Q : VK} {E : XK} (h : sp_draw K vs H Q E) : vs.length = 2 := by
  obtain ⟨p, c, n, s, rfl, _⟩ := h
  rfl
theorem tyL {K : PySem.W.Frag} {H : Hp} {a : Addr} {xs : List V} (h : H a = some (.lst xs)) : tyV K "list" (.ref a) H := .inl ⟨rfl, xs, SqL.of h⟩
theorem log_small {n : Nat} (h : n < 2 ^ 60) : ((n : Nat) : Int).natAbs.log2 < 9000 := by
  by_cases h0 : n = 0
  · subst h0
    decide
  · have q := (Nat.log2_lt (n := n) h0 (k := 60)).mpr h
    show n.log2 < 9000
    omega
theorem perm_erase {α : Type} : ∀ (l : List α) (i : Nat) (h : i < l.length), ([l[i]] ++ l.eraseIdx i).Perm l
  | a :: r, 0, _ => List.Perm.refl _
  | a :: r, i + 1, h => by
    have q := perm_erase r i (Nat.lt_of_succ_lt_succ h)
    show (r[i]'(Nat.lt_of_succ_lt_succ h) :: a :: r.eraseIdx i).Perm (a :: r)
    exact (List.Perm.swap a (r[i]'(Nat.lt_of_succ_lt_succ h)) _).trans (q.cons a)
/-! ### the items in a drawn order -/
def sp_shuffled (K : PySem.W.Frag) : Sp := fun vs H Q _ => ∃ (p c : Addr) (n : Nat) (a : Addr) (xs : List V), vs = [.ref p, .ref a] ∧ PenAt H p c n ∧ n + xs.length < 1152921504606846976 ∧ SqL K H a xs ∧ xs.length ≤ 100000 ∧ xs.all flatV = true ∧ xs.all okV = true ∧
  ∀ (ys : List V) (r : Addr) (H' : Hp), ys.Perm xs → Kp H H' → H r = none → H' r = some (.lst ys) → PenAt H' p c (n + xs.length) → Q (.ref r) H'
theorem len_shuffled {K : PySem.W.Frag} {vs : List V} {H : Hp} {Q : VK} {E : XK} (h : sp_shuffled K vs H Q E) : vs.length = 2 := by
  obtain ⟨p, c, n, a, xs, rfl, _⟩ := h
  rfl
def N_shuffled : List Str := ["_law_pen", "_law_items", "_law_rest", "_law_found"]
def t_shuffled (K : PySem.W.Frag) (E : XK) : TS :=
  (tSeq (yPar 2 3 (tCons (tCB (zList K) (tCons (yVar 1) tNil)) (tCons (tLst tNil) tNil)))
    (tSeq (yWhile (yTst (tOp (zNeD K) (yVar 2) (tLst tNil))) (tDrop (tBM K "list" zApp (yVar 3) (tCons (tBM K "list" zPopAt (yVar 2) (tCons (yCall (sp_draw K) E0 (tCons (yVar 0) (tCons (tCB (zLen K) (tCons (yVar 2) tNil)) tNil))) tNil)) tNil))))
    (tRet (yVar 3))))
theorem pure_shuffled {K : PySem.W.Frag} {vs : List V} {H : Hp} {Q : VK} {E : XK} (h : sp_shuffled K vs H Q E) : t_shuffled K E (dEnd Q) (start N_shuffled vs) H := by
  obtain ⟨p, c, n, a, xs, rfl, hP, hn, hS, hx, hf, ho, k⟩ := h
  refine ⟨xs, .inl hS, fun ρ hρ => ⟨Nat.zero_le _, fun φ hφ => ?_⟩⟩
  have hφ0 : H φ = none := (Kp.new hρ).back hφ
  have nρφ : ρ ≠ φ := fun z => by
    rw [← z, upd_same] at hφ
    cases hφ
  refine ⟨fun m σ H' => ∃ zs ws : List V, σ = [some (.ref p), some (.ref a), some (.ref ρ), some (.ref φ)] ∧ m = zs.length ∧ Kp H H' ∧ H' ρ = some (.lst zs) ∧ H' φ = some (.lst ws) ∧ (ws ++ zs).Perm xs ∧ PenAt H' p c (n + ws.length),
    ⟨_, xs, [], rfl, rfl, (Kp.new hρ).trans (Kp.new hφ), by rw [upd_ne nρφ, upd_same], upd_same, by simp, (hP.new hρ).new hφ⟩, ?_⟩
  rintro m σ H1 ⟨zs, ws, rfl, rfl, k1, h1, h2, hp, P1⟩
  have hall : ∀ z ∈ zs, z ∈ xs := fun z hz => hp.subset (List.mem_append_right _ hz)
  have hzf : zs.all flatV = true := List.all_eq_true.mpr fun z hz => List.all_eq_true.mp hf z (hall z hz)
  have hzo : zs.all okV = true := List.all_eq_true.mpr fun z hz => List.all_eq_true.mp ho z (hall z hz)
  have hlen : ws.length + zs.length = xs.length := by
    have q := hp.length_eq
    rw [List.length_append] at q
    exact q
  refine ⟨Nat.zero_le _, fun e he => ?_⟩
  have k2 : Kp H (upd H1 e (.lst [])) := k1.trans (Kp.new he)
  have h1' : (upd H1 e (.lst [])) ρ = some (.lst zs) := by rw [upd_ne (ne_of_none h1 he)]; exact h1
  have h2' : (upd H1 e (.lst [])) φ = some (.lst ws) := by rw [upd_ne (ne_of_none h2 he)]; exact h2
  have P2 : PenAt (upd H1 e (.lst [])) p c (n + ws.length) := P1.new he
  refine ⟨.list (zs.map dataV), .list [], .lst (SqL.of h1') (dpAll_flat hzf), .lst (SqL.of upd_same) .nil, shaped_flatL hzo, by decide, ?_⟩
  cases zs with
  | nil =>
    refine brF (by decide) ?_
    have e0 : ws.length = xs.length := by simpa using hlen
    rw [e0] at P2
    exact k ws φ _ (by simpa using hp) k2 hφ0 h2' P2
  | cons z r =>
    refine brT (by simp [PyData.eqv, PyData.eqvAll]) ?_
    have hl : (z :: r).length = r.length + 1 := rfl
    refine ⟨tyL h2', tyL h1', _, .inl (SqL.of h1'), p, c, _, _, rfl, P2, by omega, by omega, log_small (by omega), fun d H2 hd0 hd1 k3 P3 => ?_⟩
    have hd : d.toNat < (z :: r).length := by omega
    have g1 : H2 ρ = some (.lst (z :: r)) := k3.lst h1'
    have g2 : H2 φ = some (.lst ws) := k3.lst h2'
    refine ⟨z :: r, d.toNat, (z :: r)[d.toNat], g1, by omega, by omega, seqIndex_of hd0 (by omega), List.getElem?_eq_getElem hd, ws, by rw [upd_ne nρφ.symm]; exact g2, ?_, ?_⟩
    · refine Nat.lt_of_le_of_lt (m := 100000) (by omega) (by decide)
    · refine ⟨((z :: r).eraseIdx d.toNat).length, ?_, (z :: r).eraseIdx d.toNat, ws ++ [(z :: r)[d.toNat]], rfl, rfl, ?_, ?_, upd_same, ?_, ?_⟩
      · rw [List.length_eraseIdx_of_lt hd]
        omega
      · exact ((k2.trans k3).mut hρ).mut hφ0
      · rw [upd_ne nρφ, upd_same]
      · refine List.Perm.trans ?_ hp
        rw [List.append_assoc]
        refine List.Perm.append_left ws ?_
        exact perm_erase _ _ hd
      · have np := hP.ne hρ
        have nq := hP.ne hφ0
        have q := (P3.mut (o := .lst ((z :: r).eraseIdx d.toNat)) np.1 np.2).mut (o := .lst (ws ++ [(z :: r)[d.toNat]])) nq.1 nq.2
        rw [List.length_append]
        exact q
/-! ### names -/
def NAMES : List Str := ["a", "b", "x", "y", "top", "low", "lefty", "ends", "abcdefghijkl", "filling", "jumps", "alls"]
/-- some names that differ: as many as asked, twelve at most -/
def sp_new_names (_ : PySem.W.Frag) : Sp := fun vs H Q _ => ∃ (p c : Addr) (n : Nat) (m : Nat), vs = [.ref p, .int (m : Int)] ∧ PenAt H p c n ∧ n + 12 < 1152921504606846976 ∧
  ∀ (ys : List Str) (r : Addr) (H' : Hp), ys.Nodup → (∀ y ∈ ys, y ∈ NAMES) → ys.length = min m 12 → Kp H H' → H r = none → H' r = some (.lst (ys.map V.str)) → PenAt H' p c (n + 12) → Q (.ref r) H'
theorem len_new_names {K : PySem.W.Frag} {vs : List V} {H : Hp} {Q : VK} {E : XK} (h : sp_new_names K vs H Q E) : vs.length = 2 := by
  obtain ⟨p, c, n, a, rfl, _⟩ := h
  rfl
theorem names_nodup : NAMES.Nodup := by decide +kernel
theorem names_flat : (NAMES.map V.str).all flatV = true := by simp [flatV]
theorem names_ok : (NAMES.map V.str).all okV = true := by decide +kernel
theorem strs_of {xs : List Str} {ys : List V} (h : ys.Perm (xs.map V.str)) : ∃ zs : List Str, ys = zs.map V.str ∧ zs.Perm xs := by
  have key : ∀ l : List V, (∀ y ∈ l, ∃ z, y = V.str z) → ∃ zs : List Str, l = zs.map V.str := by
    intro l
    induction l with
    | nil => exact fun _ => ⟨[], rfl⟩
    | cons y r ih =>
      intro hl
      obtain ⟨z, rfl⟩ := hl y (List.mem_cons_self ..)
      obtain ⟨zs, rfl⟩ := ih fun y hy => hl y (List.mem_cons_of_mem _ hy)
      exact ⟨z :: zs, rfl⟩
  obtain ⟨zs, rfl⟩ := key ys fun y hy => by
    obtain ⟨z, _, e⟩ := List.mem_map.mp (h.subset hy)
    exact ⟨z, e.symm⟩
  refine ⟨zs, rfl, ?_⟩
  have inj : ∀ l : List Str, (l.map V.str).filterMap (fun v => match v with | .str z => some z | _ => none) = l := by
    intro l
    induction l with
    | nil => rfl
    | cons a r ih => simp [ih]
  have q := h.filterMap (fun v => match v with | .str z => some z | _ => none)
  rw [inj, inj] at q
  exact q
def N_new_names : List Str := ["_law_pen", "_law_many", "_law_found"]
def t_new_names (K : PySem.W.Frag) (E : XK) : TS :=
  (tSeq (tAsg (tLst (tCons (tC (.str "a")) (tCons (tC (.str "b")) (tCons (tC (.str "x")) (tCons (tC (.str "y")) (tCons (tC (.str "top")) (tCons (tC (.str "low")) (tCons (tC (.str "lefty")) (tCons (tC (.str "ends")) (tCons (tC (.str "abcdefghijkl")) (tCons (tC (.str "filling")) (tCons (tC (.str "jumps")) (tCons (tC (.str "alls")) tNil))))))))))))) (gName 2))
    (tRet (tSl (zSlL K) (yCall (sp_shuffled K) E0 (tCons (yVar 0) (tCons (yVar 2) tNil))) tNoPart (tPart (yVar 1)))))
theorem pure_new_names {K : PySem.W.Frag} {vs : List V} {H : Hp} {Q : VK} {E : XK} (h : sp_new_names K vs H Q E) : t_new_names K E (dEnd Q) (start N_new_names vs) H := by
  obtain ⟨p, c, n, m, rfl, hP, hn, k⟩ := h
  refine ⟨by decide, fun f hf => ?_⟩
  have ef : (upd H f (.lst (NAMES.map V.str))) f = some (.lst (NAMES.map V.str)) := upd_same
  refine ⟨p, c, n, f, NAMES.map V.str, rfl, hP.new hf, hn, SqL.of ef, by decide, names_flat, names_ok, fun ys r H1 hp k1 hr h1 P1 => ?_⟩
  obtain ⟨zs, rfl, hz⟩ := strs_of hp
  have hnd : zs.Nodup := hz.nodup_iff.mpr names_nodup
  have hl : zs.length = 12 := hz.length_eq
  refine ⟨_, rfl, _, SqL.of h1, fun q hq => ?_⟩
  have ec : cutV (zs.map V.str) none (some (m : Int)) = (zs.take m).map V.str := by
    unfold cutV
    rw [HT.sIx_none, HT.sIx_nat, List.length_map, hl, List.drop_zero, Nat.sub_zero, List.map_take]
    by_cases hm : m ≤ 12
    · rw [Nat.min_eq_left hm]
    · rw [Nat.min_eq_right (by omega), List.take_of_length_le (by simp [hl]), List.take_of_length_le (by simp [hl]; omega)]
  rw [ec]
  refine k (zs.take m) q _ (hnd.sublist (List.take_sublist ..)) (fun y hy => hz.subset (List.mem_of_mem_take hy)) (by rw [List.length_take, hl]) (((Kp.new hf).trans k1).trans (Kp.new hq)) (((Kp.new hf).trans k1).back hq) upd_same (P1.new hq)
end Eb

namespace Eb
open PySem PySem.Spec PyProof.Rows L2
/-! ### the wrapper of ValueError.__init__, called -/
section
open PySem.W PySem.Calls
variable {prog : Program} {w : World} {A : Around} {E : Value → Shared → Prop} {h : Heap} {g : Array GenState} {d : Drawn} {t : Nat} {os : OsState}
theorem call_mw {nm q : Str} {C N : Addr} {bs bm : List Value} {hdct : Bool} {sn : List Str} {sub : List Value} {ab : Bool} {col : Option Bool} {dd : Option Addr} {k0 k1 k2 k3 k5 : Option Value} {u e t0 : Addr} {rest : List Value} {Q : Value → Shared → Prop}
    (hC : h.get? C = some (excClassObj nm q C N bs bm hdct sn sub ab col dd k0 k1 k2 k3 k5 "ValueError.__new__")) (he : h.get? e = some (PySem.HandSPX.excO C t0)) (hu : h.get? u = some (kxs_mw "ValueError.__init__" e)) (hrest : rest.length ≤ sizeLine)
    (hq : ∀ h' t1, (∀ b o, b ≠ e → h.get? b = some o → h'.get? b = some o) → h'.get? e = some (PySem.HandSPX.excO C t1) → Q .none ⟨h', g, d, t, os⟩) :
    wpAny (model prog w) A (call (.ref u) rest) Q E ⟨h, g, d, t, os⟩ := by
  refine wpAny_call (codeAny_of_tree ?_)
  show wpAny _ A.in1 (callAny (.ref u) ⟨rest, []⟩) _ _ _
  simp only [callAny]
  refine wpAny_bind (wpAny_load hu ?_)
  simp only [kxs_mw, show (Value.type "method-wrapper" == Value.type "method" || Value.type "method-wrapper" == Value.type "builtin_function_or_method" || Value.type "method-wrapper" == Value.type "method-wrapper") = true by decide, if_true]
  refine PySem.W.KFB.if_so (by decide) ?_
  refine wpAny_bind (PySem.ESX.check_bound F.excBase_ValueError hC he rfl ?_)
  refine wpAny_bind (wpAny_pure (wpAny_pure ?_))
  refine ⟨Code.quiet_builtin _ (by decide +kernel), codeAny_builtin F.excBase_ValueError.initEntry ?_⟩
  rw [Around.under_plainId F.excBase_ValueError.init.plain _]
  wp_walk
  refine hq _ h.objs.size (fun b o hb ho => ?_) ?_
  · rw [Heap.get?_update_other _ _ (Ne.symm hb)]
    exact Heap.get?_push_of_some _ ho
  · rw [Heap.get?_update_self _ (Heap.get?_push_of_some _ he) rfl]
    rfl
end
/-! ### a further pin -/
theorem inv_pin {X : Cx} {pins : List (Addr × Obj)} {σ : L2.St} {H : Hp} {s : Shared} {h' : Heap} {t' : Nat} {u : Addr} {o : Obj} (I : Inv X pins σ H s) (k : ∀ b x, s.heap.get? b = some x → h'.get? b = some x) (hu : s.heap.objs.size ≤ u)
    (e : h'.get? u = some o) (hd : ∀ v, o.data ≠ .cell v) : Inv X ((u, o) :: pins) σ H { s with heap := h', toks := t' } := by
  have J : Inv X pins σ H { s with heap := h', toks := t' } := I.un (Un.kept k) (I.hok.kept k)
  refine ⟨J.ok, J.os, J.bare, J.base, J.loc, J.cell, J.free, J.freeC, fun p hp => ?_, J.hok, J.len⟩
  rcases List.mem_append.mp hp with hp | hp
  · exact J.pin p (List.mem_append_left _ hp)
  · rcases List.mem_cons.mp hp with rfl | hp
    · exact ⟨e, I.hok.fresh hu, fun z => absurd I.lt (by show ¬ _ < _; rw [← z]; exact Nat.not_lt.mpr hu), I.nofs hu, hd⟩
    · exact J.pin p (List.mem_append_right _ hp)
theorem inv_unpin {X : Cx} {pins : List (Addr × Obj)} {q : Addr × Obj} {σ : L2.St} {H : Hp} {s : Shared} (I : Inv X (q :: pins) σ H s) : Inv X pins σ H s :=
  ⟨I.ok, I.os, I.bare, I.base, I.loc, I.cell, I.free, I.freeC, fun p hp => I.pin p (by
    rcases List.mem_append.mp hp with hp | hp
    · exact List.mem_append_left _ hp
    · exact List.mem_append_right _ (List.mem_cons_of_mem _ hp)), I.hok, I.len⟩
/-! ### an __init__ that says super().__init__(..) first -/
/-- its scope -/
structure XScope (N P : List Str) (sc : Scope) : Prop where
  kind : sc.kind = .function
  co : sc.isCoroutine = false
  gen : sc.isGenerator = false
  nd : N.Nodup
  pre : N.take P.length = P
  par : ∀ x ∈ P, sc.names.lookup x = some .local
  nocell : ∀ y ∈ sc.names, y.2 ≠ .cell
  free : ∀ y ∈ sc.names, y.2 = .free → y.1 = "__class__"
  cls : sc.names.lookup ("__class__" : Str) = some .free
  sup : sc.names.lookup ("super" : Str) = some .globalImplicit
/-- its context -/
def xcCx (CX : CXT) (P : Program) (w : World) (K : PySem.W.Frag) (mg : Str → Option Value) (base : Heap) (N : List Str) (qual : Str) (scope : Scope) (f cda cc : Addr) (A : Around) (outer : List Env) (s : Shared) (H : Hp) (E : XK) : Cx where
  prog := P
  w := w
  K := K
  mg := mg
  base := base
  A := A.deeper (PySem.W.ksEnv qual scope s.heap.objs.size f (.ref cda) cc)
  N := N
  s_0 := s
  H_0 := H
  env := PySem.W.ksEnv qual scope s.heap.objs.size f (.ref cda) cc
  outer := outer
  stack := PySem.W.ksEnv qual scope s.heap.objs.size f (.ref cda) cc :: outer
  ex := []
  calm := true
  fn := fun _ => false
  pn := []
  xe := fun e s' => wpAny (model P w) (A.deeper (PySem.W.ksEnv qual scope s.heap.objs.size f (.ref cda) cc)) (leaving (PySem.W.ksEnv qual scope s.heap.objs.size f (.ref cda) cc) e) (fun _ s'' => CX outer H s E e s'') (fun e' s'' => CX outer H s E e' s'') s'
theorem zip_look : ∀ {ps : List Str} {us : List Value} {i : Nat} {x : Str} {u : Value}, ps.Nodup → ps[i]? = some x → us[i]? = some u → (ps.zip us).reverse.lookup x = some u
  | [], _, _, _, _, _, h, _ => by simp at h
  | _ :: _, [], _, _, _, _, _, h => by simp at h
  | p :: ps, v :: us, 0, x, u, nd, h1, h2 => by
    simp at h1 h2
    subst h1 h2
    rw [List.zip_cons_cons, List.reverse_cons, List.lookup_append]
    have n : (ps.zip us).reverse.lookup p = none := by
      rw [List.lookup_eq_none_iff]
      intro q hq
      have hm : q.1 ∈ ps := (List.of_mem_zip (List.mem_reverse.mp hq)).1
      have := (List.nodup_cons.mp nd).1
      simp only [beq_eq_false_iff_ne, bne_iff_ne, ne_eq] 
      intro z
      rw [z] at this
      exact this hm
    rw [n]
    simp [List.lookup]
  | p :: ps, v :: us, i + 1, x, u, nd, h1, h2 => by
    rw [List.zip_cons_cons, List.reverse_cons, List.lookup_append, zip_look (i := i) (List.nodup_cons.mp nd).2 (by simpa using h1) (by simpa using h2)]
    rfl
theorem xc_start {CX : CXT} {P : Program} {w : World} {K : PySem.W.Frag} {mg : Str → Option Value} {base : Heap} {N ps : List Str} {qual : Str} {scope : Scope} {f cda cc : Addr} {A : Around} {outer : List Env} {s : Shared} {H : Hp} {E : XK} {us : List Value} {vs : List V} {h₁ : Heap} {tk : Nat}
    (S : XScope N ps scope) (hd : A.handled = none) (e0 : Env0 P w K mg base A outer s H) (hl : vs.length = ps.length) (r : Vals vs us) (hns : h₁.Ns s.heap.objs.size fun x => (ps.zip us).reverse.lookup x) (kp : ∀ b o, s.heap.get? b = some o → h₁.get? b = some o)
    (hc : ∃ v, base.IsCell cc v) : Inv (xcCx CX P w K mg base N qual scope f cda cc A outer s H E) [] (L2.start N vs) H { s with heap := h₁, toks := tk } := by
  have hpl : ps.length ≤ N.length := by have := congrArg List.length S.pre; rw [List.length_take] at this; omega
  have noA : ∀ b : Addr, b ∉ (xcCx CX P w K mg base N qual scope f cda cc A outer s H E).ex := fun b z => absurd (show b ∈ ([] : List Addr) from z) (by simp)
  obtain ⟨v0, oc, ho, hdt⟩ := hc
  have one : ∀ {y : Str} {c : Addr}, List.lookup y [(("__class__" : Str), cc)] = some c → y = "__class__" ∧ c = cc := fun {y c} e => by
    rcases List.mem_singleton.mp (PySem.mem_of_lookup e) with z
    cases z
    exact ⟨rfl, rfl⟩
  refine ⟨⟨e0.mod, S.kind, rfl, rfl, Nat.le_refl _, fun y z c h1 h2 => ?_, fun y hy => ?_, fun y c h _ => ?_, fun _ => hd, Around.frames_deeper e0.frames, .inr ⟨rfl, rfl⟩, fun b z => absurd z (noA b), e0.bs, e0.bsz, fun b _ _ => noA b, fun b z => absurd z (noA b), e0.funs, e0.frf⟩,
    rfl, e0.bare, Un.kept kp, ⟨_, hns, fun i y v h1 h2 h3 => ?_⟩, fun y c h => ?_, e0.hok.fresh (Nat.le_refl _), fun y c h => ?_, fun p hp => absurd (show p ∈ ([] : List (Addr × Obj)) from hp) (by simp), e0.hok.kept kp, ?_⟩
  · exact (one h1).1.trans (one h2).1.symm
  · have hy : scope.names.lookup y = some .cell ∨ scope.names.lookup y = some .free := hy
    rcases hy with hy | hy
    · exact absurd rfl (S.nocell _ (PySem.mem_of_lookup hy))
    · have e := S.free _ (PySem.mem_of_lookup hy) rfl
      have e : y = "__class__" := e
      subst e
      exact ⟨cc, rfl⟩
  · exact absurd (show false = true from h) Bool.false_ne_true
  · have hi : i < vs.length := by
      unfold L2.start at h2
      by_cases hi : i < vs.length
      · exact hi
      · rw [List.getElem?_append_right (by simpa using hi), List.getElem?_replicate] at h2
        split at h2 <;> cases h2
    have ha : vs[i]? = some v := by
      unfold L2.start at h2
      rw [List.getElem?_append_left (by simpa using hi), List.getElem?_map] at h2
      cases e : vs[i]? with
      | none => rw [e] at h2; cases h2
      | some a => rw [e] at h2; cases h2; rfl
    obtain ⟨u, hu, rv⟩ := r.get ha
    have hp : ps[i]? = some y := by
      rw [← S.pre, List.getElem?_take_of_lt (by omega)]; exact h1
    have ndP : ps.Nodup := by rw [← S.pre]; exact S.nd.sublist (List.take_sublist _ _)
    exact ⟨u, rv, .inl ⟨S.par y (List.mem_of_getElem? hp), zip_look ndP hp hu⟩⟩
  · obtain ⟨_, e⟩ := one h
    subst e
    exact ⟨v0, oc, kp _ _ (e0.bs _ _ ho).1, hdt⟩
  · obtain ⟨_, e⟩ := one h
    subst e
    exact (e0.bs _ _ ho).2
  · unfold L2.start
    show _ = N.length
    rw [List.length_append, List.length_map, List.length_replicate]
    omega
/-- what the written part must say of an exception class, its __init__ and what that __init__ closes over -/
structure XcC (P : Program) (K : PySem.W.Frag) (C cda cc : Addr) : Prop where
  o : OexC K C
  code : ∃ ccl cdd vs ccs file tf, K.lookup cda = some ⟨ccl, cdd, .fields vs, ccs⟩ ∧ vs[2]? = some (.str file tf) ∧ (P.main.file == file) = true
  cell : ∃ cl cld csl, K.lookup cc = some ⟨cl, cld, .cell (some (.ref C)), csl⟩
  sup : PySem.W.ks_superIn K C C "__init__" = some (some (.builtin "ValueError.__init__"))
  sV : PySem.W.subIn K (.ref C) (.type "ValueError") = some true
  own : PySem.W.mroIn K C (.ref C) = some true
  any : PySem.W.nsIn K cStatics "thirdparty.any" = some none
  top : (P.main.scope.names.lookup ("super" : Str)).isSome = false
theorem xc_ok {CX : CXT} {P : Program} {w : World} {K : PySem.W.Frag} {mg : Str → Option Value} {base : Heap} {k : Nat} {f C cc cda : Addr} {name qual : Str} {params : Arguments} {body rest : List Stmt} {scope : Scope} {dV kV doc pm ct oc : Value} {an od : Option Addr}
    {osl : Array (Option Value)} {N ps : List Str} {sp : Sp} {e : Expr} {es : List Expr} {p0 p1 p2 p3 p4 : Pos} {ar : Arg}
    (lk : K.lookup f = some ⟨oc, od, .func (PySem.W.ksFn name qual params body scope dV kV doc pm an (.ref cda) ct cc), osl⟩) (hcd : PySem.W.codeIn K (.ref cda) qual = true) (T : XcC P K C cda cc)
    (hbd : body = .Expr (.Call (.Attribute (.Call (.Name "super" p0) [] [] p1) "__init__" p2) (e :: es) [] p3) p4 :: rest) (S : XScope N ps scope) (len : ∀ vs H Q E, sp vs H Q E → vs.length = ps.length)
    (hp : (params.posonlyargs ++ params.args).head? = some ar) (har : ps[0]? = some ar.arg) (hmg : mg "super" = none)
    (hbody : ∀ (A : Around) (outer : List Env) (s : Shared) (H : Hp) (vs : List V) (Q : VK) (E : XK), Room k (A.deeper (PySem.W.ksEnv qual scope s.heap.objs.size f (.ref cda) cc)) → sp vs H Q E →
      ∃ a ws ta t, vs = .ref a :: ws ∧ H a = some (exo a C none) ∧ PA (xcCx CX P w K mg base N qual scope f cda cc A outer s H E) (e :: es) ta ∧ PSs (xcCx CX P w K mg base N qual scope f cda cc A outer s H E) rest t ∧
        ta (L2.start N vs) H fun us H1 => us.length ≤ 1000 ∧ H1 a = some (exo a C none) ∧ t { nx := fun _ H' => Q .non H', rt := Q } (L2.start N vs) H1)
    (he : ∀ env : Env, starEach (e :: es) env = (false, eval e env) :: starEach es env := by exact fun _ => rfl) (hpl : ∀ env : Env, (backTo p3 (starEach es env)).any (·.1) = false := by exact fun _ => rfl)
    (hev : ∀ env : Env, ∃ pl, eval (.Call (.Attribute (.Call (.Name "super" p0) [] [] p1) "__init__" p2) (e :: es) [] p3) env = (do
      let ov ← attributeBase (.Call (.Name "super" p0) [] [] p1) "__init__" env (eval (.Call (.Name "super" p0) [] [] p1) env)
      standAt p2.atName
      let (f, first) ← holding [ov] (getMethod ov "__init__" pl)
      callWith p3 f first (backTo p3 (starEach (e :: es) env)) []) := by exact fun _ => ⟨_, rfl⟩)
    (hsw : ∀ env : Env, swapsWith (.Call (.Attribute (.Call (.Name "super" p0) [] [] p1) "__init__" p2) (e :: es) [] p3) none p4.line env = pure false := by exact fun _ => rfl) :
    FnOk P w K mg base CX (k + 1) f (PySem.W.ksFn name qual params body scope dV kV doc pm an (.ref cda) ct cc) ps sp := by
  refine ⟨len, fun A outer s H args us vs Q E hr e0 hb r hsp => ?_⟩
  have hl := len _ _ _ _ hsp
  have KX : K.In s.heap := e0.mod.kin.keeps fun b o e => (e0.bs b o e).1
  have lim : s.heap.NoLimit := e0.mod.nolimit.keeps fun b o e => (e0.bs b o e).1
  obtain ⟨ccl, cdd, cvs, ccs, file, tf, lkc, hv2, hfile⟩ := T.code
  obtain ⟨cl, cld, csl, lcell⟩ := T.cell
  obtain ⟨nm, q, NN, bs, bm, sn, sub, ab, col, dd, k0, k1, k2, k3, k5, hC, hbm⟩ := T.o.cls
  have hcl : ∃ cd, PySem.W.clsIn K C = some cd := ⟨_, by unfold PySem.W.clsIn; rw [hC] <;> rfl⟩
  obtain ⟨cd, hcl⟩ := hcl
  refine PySem.ks_codeAny_call_defAt (fd := PySem.W.ksFn name qual params body scope dV kV doc pm an (.ref cda) ct cc) (body := body) (binds := ps.zip us) hr.depth (KX _ _ lk) rfl lim (PySem.W.codeRec_of KX hcd) rfl hb S.nocell
    (fun y hy => S.par _ (List.of_mem_zip hy).1) (fun h₁ hns kp => ?_) S.co S.gen S.kind
  have I0 : Inv (xcCx CX P w K mg base N qual scope f cda cc A outer s H E) [] (L2.start N vs) H { s with heap := h₁, toks := s.toks + (ps.zip us).length } := xc_start S hr.hd e0 hl r hns kp ⟨_, _, e0.mod.kin _ _ lcell, rfl⟩
  obtain ⟨a, ws, ta, t, ev, ha, hta, ht, hq⟩ := hbody A outer s H vs Q E (hr.deeper _) hsp
  have fin : ∀ {fl : Flow} {s' : Shared}, SP (xcCx CX P w K mg base N qual scope f cda cc A outer s H E) [] { nx := fun _ H' => Q .non H', rt := Q } fl s' → CR CX outer P w H s Q E (.ok (.ret (match fl with | .ret v => v | _ => .none))) s' := fun {fl s'} hs => by
    cases fl with
    | ret u =>
      obtain ⟨v, σ', H', J, rv, q⟩ := hs
      exact ⟨v, H', J.os, J.bare, J.base, J.hok, rv, q⟩
    | next =>
      obtain ⟨σ', H', J, q⟩ := hs
      exact ⟨.non, H', J.os, J.bare, J.base, J.hok, rfl, q⟩
    | brk =>
      obtain ⟨_, _, _, q⟩ := hs
      exact False.elim q
    | cont =>
      obtain ⟨_, _, _, q⟩ := hs
      exact False.elim q
  subst ev
  cases r with
  | @cons _ u0 _ ur ra rw' =>
  obtain rfl : u0 = Value.ref a := ra
  have ndP : ps.Nodup := by rw [← S.pre]; exact S.nd.sublist (List.take_sublist _ _)
  have hself : (ps.zip (Value.ref a :: ur)).reverse.lookup ar.arg = some (Value.ref a) := zip_look ndP har rfl
  have hD : ∃ oD, h₁.get? C = some oD ∧ oD.data = .cls cd := by
    unfold PySem.W.clsIn at hcl
    rw [hC] at hcl
    exact ⟨_, kp _ _ (KX _ _ hC), by cases hcl; rfl⟩
  obtain ⟨oD, hD1, hD2⟩ := hD
  obtain ⟨t0, hoe⟩ := exo_at I0.hok ha
  have KX1 : K.In h₁ := fun b o z => kp _ _ (KX _ _ z)
  have hks : (PySem.W.ksEnv qual scope s.heap.objs.size f (.ref cda) cc).kindOf "super" = some .globalImplicit := S.sup
  have hkc : (PySem.W.ksEnv qual scope s.heap.objs.size f (.ref cda) cc).kindOf "__class__" = some .free := S.cls
  have hka : (PySem.W.ksEnv qual scope s.heap.objs.size f (.ref cda) cc).kindOf ar.arg = some .local := S.par _ (List.mem_of_getElem? har)
  obtain ⟨mb, hb1, hb2⟩ := e0.mod.blt
  show _root_.PySem.wpAt _ (A.deeper (PySem.W.ksEnv qual scope s.heap.objs.size f (.ref cda) cc)) (.func body (PySem.W.ksEnv qual scope s.heap.objs.size f (.ref cda) cc)) (execs body (PySem.W.ksEnv qual scope s.heap.objs.size f (.ref cda) cc)) _ _ _
  obtain ⟨hp0, gg, dd0, tt, os0⟩ := s
  refine PySem.wpAt_mono (Q := SP (xcCx CX P w K mg base N qual scope f cda cc A outer ⟨hp0, gg, dd0, tt, os0⟩ H E) [] { nx := fun _ H' => Q .non H', rt := Q }) ?_ (fun fl s' hs => fin hs) fun _ _ z => z
  have bk : ∀ b o, base.get? b = some o → h₁.get? b = some o := fun b o z => kp _ _ (e0.bs b o z).1
  suffices main : ∀ body', body' = body → _root_.PySem.wpAt (model P w) (A.deeper (PySem.W.ksEnv qual scope hp0.objs.size f (.ref cda) cc)) (.func body' (PySem.W.ksEnv qual scope hp0.objs.size f (.ref cda) cc)) (execs body (PySem.W.ksEnv qual scope hp0.objs.size f (.ref cda) cc))
      (SP (xcCx CX P w K mg base N qual scope f cda cc A outer ⟨hp0, gg, dd0, tt, os0⟩ H E) [] { nx := fun _ H' => Q .non H', rt := Q }) (xcCx CX P w K mg base N qual scope f cda cc A outer ⟨hp0, gg, dd0, tt, os0⟩ H E).xe ⟨h₁, gg, dd0, tt + (ps.zip (Value.ref a :: ur)).length, os0⟩ from main body rfl
  intro body' _
  rw [hbd]
  obtain ⟨pl, hev⟩ := hev (PySem.W.ksEnv qual scope hp0.objs.size f (.ref cda) cc)
  refine PySem.ks_wpAt_execs_cons (PySem.ks_wpAt_Expr_any (PySem.ks_wpAt_MethodCall (pl := pl) ?_ hev) I0.quiet (hsw _))
  refine PySem.ks_wpAt_super_base hks hkc (by decide) rfl (KX1 _ _ lk) rfl hp rfl (KX1 _ _ lkc) rfl hv2 hfile T.top ?_
  refine PySem.W.ks_loadName_global S.kind hks (Calls.loadGlobal_builtin (e0.mod.glob.keeps bk) hmg (hb1.keeps bk) ((hb2 "super" (by decide)).trans PyProof.Rows.Boot.«super») ⟨rfl, ?_⟩)
  refine wpAny_loadName_free S.kind hkc rfl ⟨_, KX1 _ _ lcell, rfl⟩ ?_
  refine wpAny_loadName_local S.kind hka hns hself ?_
  refine PySem.ks_wpAny_isType_cls hD1 hD2 ⟨rfl, ?_⟩
  refine PySem.ks_wpAny_call_super hD1 hD2 hoe rfl (fun c z => by cases z) (PySem.W.looks_mroIn KX1 T.own) (fun h2 eso k2' => ?_)
  have KX2 : K.In h2 := fun b o z => k2' _ _ (KX1 _ _ z)
  have I2 : PySem.W.InstAt h2 a _ C none := ⟨k2' _ _ hoe, rfl, rfl, trivial⟩
  have hsup := T.sup
  unfold PySem.W.ks_superIn at hsup
  rw [hcl] at hsup
  refine PySem.W.kxs_getMethod PySem.W.kxs_ValueError (l₀ := cd.mro) eso (PySem.W.looks_opaque KX2 T.any) (fun A Q E s k q => wpAny_bind ((PySem.W.looks_clsIn KX2 hcl) A _ E s k (wpAny_pure q))) rfl KX2 hsup (I2.type.andThen (PySem.W.looks_subIn KX2 T.sV)) (PySem.W.ks_ne KX2 I2 hcl) (by decide) ?_
  have kk : ∀ b o, h₁.get? b = some o → (h2.push (PySem.W.kxs_mw "ValueError.__init__" a)).get? b = some o := fun b o z => Heap.get?_push_of_some _ (k2' _ _ z)
  have hsz : h₁.objs.size ≤ h2.objs.size := Nat.le_of_lt (Heap.lt_size eso)
  have I3 := inv_pin (t' := tt + (ps.zip (Value.ref a :: ur)).length + 1) I0 kk hsz (o := PySem.W.kxs_mw "ValueError.__init__" a) (Heap.get?_push_at rfl rfl) (fun v z => by cases z)
  show wpAny _ _ (callWith p3 (.ref h2.objs.size) [] (backTo p3 (starEach (e :: es) (PySem.W.ksEnv qual scope hp0.objs.size f (.ref cda) cc))) []) _ _ _
  have hrun := hta.run p3 _ _ _ _ _ I3 hq
  have hrun : wpAny (model P w) (A.deeper (PySem.W.ksEnv qual scope hp0.objs.size f (.ref cda) cc)) (spliced (backTo p3 (starEach (e :: es) (PySem.W.ksEnv qual scope hp0.objs.size f (.ref cda) cc)))) _ _ _ := hrun
  rw [he] at hrun ⊢
  refine PySem.W.kxs_callWith (i := "ValueError.__init__") (x := a) (by show (false || (backTo p3 (starEach es _)).any (·.1)) = false; rw [hpl]; rfl) ?_
  refine Calls.evalArgs_plain (thn hrun fun vs1 s4 hh => ?_)
  obtain ⟨xs, H1, I4, r4, hxl, hxa, hqt⟩ := hh
  have pin := I4.pin (h2.objs.size, PySem.W.kxs_mw "ValueError.__init__" a) (List.mem_append_right _ List.mem_cons_self)
  refine ⟨pin.1, ?_⟩
  obtain ⟨t4, ho4⟩ := exo_at I4.hok hxa
  obtain ⟨hp4, g4, d4, tk4, os4⟩ := s4
  have hvs : vs1.length ≤ sizeLine := by
    rw [← Paired.length r4, sizeLine_eq]
    omega
  refine call_mw (I4.kIn _ _ hC) ho4 pin.1 hvs (fun h5 t5 k5' hx5 => ?_)
  have J := (inv_unpin I4).write (t' := tk4) (x := a) (e := a) (o := exo a C none) (by rw [hxa]; exact True.intro) (.inl rfl) k5' ⟨_, hx5⟩ (exo_ok hx5)
  have eu : upd H1 a (exo a C none) = H1 := by
    funext b
    by_cases hb : b = a
    · rw [hb, upd_same, hxa]
    · rw [upd_ne hb]
  rw [eu] at J
  exact PySem.wpAt_of_wpAny (ht.run [] _ _ H1 _ J hqt)
end Eb

namespace Eb
open PySem PySem.Spec PyProof.Rows L2
/-! ### isinstance of an exception, with or without a dict -/
section
open PySem.W PySem.Calls
variable {prog : Program} {w : World} {A : Around} {E : Value → Shared → Prop} {s : Shared} {K : Frag} {x D : Addr} {ox : Obj} {od : Option Obj}
theorem find_dataD {C : Addr} {name : Str} {a g : Value} (hc : (clsIn K C).isSome = true) (ha : findIn K (.ref C) name = some (some a)) (hg : specialIn K a "__get__" = some (some g)) (ht : takesIn K a = some true) : findObj K C od name = some (.bind g a) := by
  obtain ⟨cd, hc⟩ := Option.isSome_iff_exists.mp hc
  unfold findObj
  rw [hc, Option.bind_some, ha, Option.bind_some]
  simp [hg, ht]
theorem kin_exc {Q : Option Value → Shared → Prop} (C : L2.ExcC K D) (X : K.In s.heap) (I : InstAt s.heap x ox D od) (h : Q (some (.ref D)) { s with toks := s.toks + 1 }) : wpAny (model prog w) A (getAttr? (.ref x) "__class__") Q E s := by
  have hf : findObj K D od "__class__" = some (.bind (.builtin "getset_descriptor.__get__") (.builtin "object.__class__")) := find_dataD (by obtain ⟨cd, hc, _⟩ := any_some C.hd; rw [hc]; rfl) C.ha C.hn C.ht
  obtain ⟨hp, g, d, t, os⟩ := s
  have L0 := I.type (M := model prog w)
  have L1 := looks_findIn (M := model prog w) X C.hg
  have L2 := looks_findIn (M := model prog w) X C.hk
  have L3 := looks_find (M := model prog w) X I hf
  have sub : Looks (model prog w) hp (isInstance (.ref x) (.type "BaseException")) true := L0.andThen (looks_subIn X C.hs)
  have hx0 : (false && onTheHeap (Value.builtin "BaseException.__getattribute__")) = false := rfl
  have hx2 : (Value.builtin "BaseException.__getattribute__" == Value.builtin "object.__getattribute__") = false := by decide +kernel
  have hx1 : (onTheHeap (Value.ref D) && Value.builtin "BaseException.__getattribute__" == Value.builtin "object.__getattribute__") = false := by rw [hx2]; rfl
  unfold getAttr? getAttrBy? getAttrBy
  refine wpAny_bind (wpAny_mkText (wpAny_bind (wpAny_attempt (wpAny_holding (wpAny_bind (L0.at (wpAny_bind (L1.at ?_))))))))
  show wpAny _ _ (if (onTheHeap (Value.ref D) && Value.builtin "BaseException.__getattribute__" == Value.builtin "object.__getattribute__") = true then _ else _) _ _ _
  rw [hx1, if_neg Bool.false_ne_true]
  unfold getAttrByItsOwn hookBefore
  refine wpAny_bind ?_
  rw [if_pos (show onTheHeap (Value.ref D) = true from rfl)]
  refine L2.at ?_
  refine wpAny_bind (wpAny_attempt (wpAny_holding ?_))
  unfold callGetattribute
  rw [hx0, if_neg Bool.false_ne_true]
  unfold boundAndCalled
  rw [PySem.F.excAttr_ValueError.ga.bind (.ref x)]
  refine wpAny_bind (wpAny_pure ?_)
  show wpAny _ _ (call (.builtin "BaseException.__getattribute__") [.ref x, .str "__class__" t]) _ _ _
  refine wpAny_call (codeAny_call_builtin PySem.F.excAttr_ValueError.ga.plain PySem.F.entry_bexc_ga ?_)
  refine @check_slot (model prog w) _ _ ⟨hp, g, d, t + 1, os⟩ "BaseException.__getattribute__" "BaseException" "__getattribute__" (.ref x) [.str "__class__" t] [] _ (by decide +kernel) (by decide +kernel) sub (PySem.F.args_bexc_ga (.ref x) (.str "__class__" t)) ?_
  unfold Builtin.«object.__getattribute__»
  refine wpAny_bind (wpAny_of_eq (a := ((Value.ref x : Value), [Value.str "__class__" t])) (by first | rfl | (simp only [slotArgs]; rfl)) ?_)
  refine wpAny_bind (wpAny_pure (wpAny_bind (L0.at (wpAny_bind (L3.at ?_)))))
  show wpAny _ _ (holding [Value.builtin "object.__class__"] (call (.builtin "getset_descriptor.__get__") [.builtin "object.__class__", .ref x, .ref D]) >>= ret) _ _ _
  refine wpAny_bind (wpAny_holding (wpAny_call (class_get (s := ⟨hp, g, d, t + 1, os⟩) (ox := ox) (od := od) X I C.hm ?_)))
  refine wpAny_pure ?_
  show wpAny _ _ (handedOut (.ref D)) _ _ _
  rw [handedOut_of (v := .ref D) rfl]
  first
    | exact wpAny_pure (wpAny_pure h)
    | exact wpAny_pure h
    | exact wpAny_pure (wpAny_bind (wpAny_pure (wpAny_pure h)))
theorem kitx_exc (C : L2.ExcC K D) : KitX K (.ref x) (.ref D) (fun h => ∃ ox od, InstAt h x ox D od) where
  ty := fun _ _ _ ⟨_, _, I⟩ => I.type
  it := fun _ _ X _ => by
    obtain ⟨cdD, hcD, _⟩ := any_some C.hd
    unfold clsIn at hcD
    split at hcD
    · rename_i c' d' cd' sl' ho
      intro A' Q' E' s' k q
      unfold isType loadHead
      exact wpAny_bind (wpAny_loadPart (k _ _ (X _ _ ho)) (wpAny_pure q))
    · cases hcD
  ne := fun h tp dd its n sl X htp => by
    obtain ⟨cdD, hcD, _⟩ := any_some C.hd
    refine Bool.eq_false_iff.mpr fun q => ?_
    have e : D = tp := Value.ref.inj (beq_iff_eq.mp q)
    subst e
    unfold clsIn at hcD
    split at hcD
    · rename_i c' d' cd' sl' ho
      have z := (X _ _ ho).symm.trans htp
      cases z
    · cases hcD
  ca := fun X ⟨_, _, I⟩ k => kin_exc C X I k
end
/-! ### an exception as a value -/
def Ext (H H' : Hp) : Prop := ∀ b o, H b = some o → H' b = some o
/-- at a: an exception of the class at C with the fields fs -/
def ExAt (H : Hp) (a C : Addr) (fs : List (Str × V)) : Prop := (fs = [] ∧ H a = some (exo a C none)) ∨ ∃ dx, H a = some (exo a C (some dx)) ∧ H dx = some (exd dx fs)
theorem ExAt.ext {H H' : Hp} {a C : Addr} {fs : List (Str × V)} (h : ExAt H a C fs) (e : Ext H H') : ExAt H' a C fs := by
  rcases h with ⟨h1, h2⟩ | ⟨dx, h1, h2⟩
  · exact .inl ⟨h1, e _ _ h2⟩
  · exact .inr ⟨dx, e _ _ h1, e _ _ h2⟩
theorem Ext.refl (H : Hp) : Ext H H := fun _ _ h => h
theorem Ext.trans {H H1 H2 : Hp} (a : Ext H H1) (b : Ext H1 H2) : Ext H H2 := fun c o h => b c o (a c o h)
theorem Ext.new {H : Hp} {p : Addr} {o : HO} (h : H p = none) : Ext H (upd H p o) := fun b u hb => by rw [upd_ne (ne_of_none hb h)]; exact hb
theorem Ext.mut {H H' : Hp} {p : Addr} {o : HO} (e : Ext H H') (h : H p = none) : Ext H (upd H' p o) := fun b u hb => by rw [upd_ne (ne_of_none hb h)]; exact e b u hb
theorem Ext.back {H H' : Hp} (k : Ext H H') {b : Addr} (h : H' b = none) : H b = none := by
  cases e : H b with
  | none => rfl
  | some o => rw [k b o e] at h; cases h
/-- the class that the module's name x stands for -/
def isX (K : PySem.W.Frag) (n : Str) (C : Addr) : Prop := XfC K C ∧ PySem.W.findIn K (.ref C) n = some none
/-- e.f of an exception held as a value -/
def yXfld (K : PySem.W.Frag) (n : Str) (te : TE) : TE := fun σ H Q => te σ H fun x H1 => match x with
  | .ref a => ∃ C fs v, ExAt H1 a C fs ∧ isX K n C ∧ fs.lookup n = some v ∧ Q v H1
  | _ => False
/-- isinstance(e, c), e such an exception -/
def zIsX (K : PySem.W.Frag) : List V → Hp → VK → Prop := fun xs H Q => match xs with
  | [.ref a, .ref c] => ∃ C fs b, ExAt H a C fs ∧ ExcC K C ∧ PySem.W.kitOne K (.ref C) (.ref c) = some b ∧ Q (.bl b) H
  | [.ref a, .ty T] => ∃ C fs b, ExAt H a C fs ∧ ExcC K C ∧ PySem.W.kitOne K (.ref C) (.type T) = some b ∧ Q (.bl b) H
  | _ => False
section
variable {X : Cx}
theorem exat_inst {pins : List (Addr × Obj)} {σ : L2.St} {H : Hp} {s : Shared} {a C : Addr} {fs : List (Str × V)} (I : Inv X pins σ H s) (h : ExAt H a C fs) :
    ∃ ox od, PySem.W.InstAt s.heap a ox C od ∧ (∀ n v, fs.lookup n = some v → ∃ o u, od = some o ∧ PySem.W.lookIn n o = some (some u) ∧ RelV v u) := by
  rcases h with ⟨h1, h2⟩ | ⟨dx, h1, h2⟩
  · obtain ⟨t0, ho⟩ := exo_at I.hok h2
    exact ⟨_, none, ⟨ho, rfl, rfl, trivial⟩, fun n v e => by rw [h1] at e; cases e⟩
  · obtain ⟨t0, ho⟩ := exo_at I.hok h1
    obtain ⟨mA, hns, rel⟩ := exd_at I.hok h2
    obtain ⟨od, hod, hl⟩ := lookIn_ns hns
    refine ⟨_, some od, ⟨ho, rfl, rfl, hod⟩, fun n v e => ?_⟩
    obtain ⟨u, hu, ru⟩ := RelO.some_of (v := v) (o := mA n) (by rw [← e]; exact rel n)
    exact ⟨od, u, rfl, by rw [hl, hu], ru⟩
theorem ye_xfld {e : Expr} {te : TE} {pos : Pos} {n : Str} (he : PE X e te) (hb : attributeBase e n X.env (eval e X.env) = eval e X.env := by rfl) : PE X (.Attribute e n pos) (yXfld X.K n te) := by
  refine ⟨fun pins s σ H Q I h => ?_⟩
  refine attr_of hb (thn (he.run pins s σ H _ I h) fun u s1 hh => ?_)
  obtain ⟨x, H1, I1, rx, q⟩ := hh
  cases x <;> first | exact False.elim q | skip
  rename_i a
  obtain ⟨C, fs, v, hx, ⟨T, hno⟩, l, q⟩ := q
  obtain rfl : u = Value.ref a := rx
  obtain ⟨ox, od, J, hl⟩ := exat_inst I1 hx
  obtain ⟨o, u, rfl, hu, ru⟩ := hl n v l
  exact HandSPX.exc_get I1.kIn J T.ga T.gg T.exC (PySem.W.findObj_own T.hdC hno rfl hu) (handed_of ru) ⟨v, H1, I1.tok _, ru, q⟩
theorem cr_isX : CallR X (.builtin "isinstance") (zIsX X.K) := by
  intro pins s σ H xs us Q I r h
  unfold zIsX at h
  split at h
  · obtain ⟨C, fs, b, hx, T, e, q⟩ := h
    cases r with
    | cons rx rr => cases rr with
      | cons rt rr =>
        cases rr
        cases rx
        cases rt
        obtain ⟨ox, od, J, _⟩ := exat_inst I hx
        exact PySem.W.kia_one (kitx_exc T) I.kIn ⟨ox, od, J⟩ e (fun z => nomatch z) fun tk => ⟨.bl b, H, I.kept (t' := tk) fun _ _ z => z, rfl, q⟩
  · obtain ⟨C, fs, b, hx, T, e, q⟩ := h
    cases r with
    | cons rx rr => cases rr with
      | cons rt rr =>
        cases rr
        cases rx
        cases rt
        obtain ⟨ox, od, J, _⟩ := exat_inst I hx
        exact PySem.W.kia_one (kitx_exc T) I.kIn ⟨ox, od, J⟩ e (fun z => nomatch z) fun tk => ⟨.bl b, H, I.kept (t' := tk) fun _ _ z => z, rfl, q⟩
  · exact h.elim
end
/-! ### making one -/
/-- what __init__ promises: no field | the field f, of an argument that ok lets -/
def spI0 (C : Addr) : Sp := fun vs H Q E => ∃ a, vs = [.ref a] ∧ H a = some (exo a C none) ∧ Q .non H
def spI1 (C : Addr) (f : Str) (ok : V → Prop) : Sp := fun vs H Q E => ∃ a v, vs = [.ref a, v] ∧ H a = some (exo a C none) ∧ ok v ∧ ∀ dx, H dx = none → dx ≠ a → Q .non (upd (upd H dx (exd dx [(f, v)])) a (exo a C (some dx)))
def spIL (K : PySem.W.Frag) (C : Addr) (f : Str) : Sp := fun vs H Q E => ∃ a p ys, vs = [.ref a, .ref p] ∧ H a = some (exo a C none) ∧ (SqL K H p ys ∨ SqT K H p ys) ∧ ys.length < 10 ^ 9 ∧
  ∀ l dx, H l = none → l ≠ a → H dx = none → dx ≠ a → dx ≠ l → Q .non (upd (upd (upd H l (.lst ys)) dx (exd dx [(f, .ref l)])) a (exo a C (some dx)))
/-- a class of the module with its __init__ -/
structure Mk (P : Program) (w : World) (K : PySem.W.Frag) (mg : Str → Option Value) (base : Heap) (x : Str) (C : Addr) (ps : List Str) (sp : Sp) : Prop where
  o : OexC K C
  glob : mg x = some (.ref C)
  ini : ∃ fI fd, PySem.W.findIn K (.ref C) "__init__" = some (some (.ref fI)) ∧ PySem.W.typeIn K (.ref fI) = some (.type "function") ∧ FnOk P w K mg base (L2.CX P w) 1 fI fd ps sp ∧ Binds K fd ps []
theorem mk_run {X : Cx} {x : Str} {C : Addr} {ps : List Str} {sp : Sp} (M : Mk X.prog X.w X.K X.mg X.base x C ps sp) (hr : Room 2 X.A) {pins : List (Addr × Obj)} {σ : L2.St} {H1 : Hp} {s1 : Shared} {us : List Value} {vs : List V} {Q : VK}
    (I1 : Inv X pins σ H1 s1) (r1 : Vals vs us) (hz : vs.length ≤ 1000) (h : ∀ a, H1 a = none → sp (.ref a :: vs) (upd H1 a (exo a C none)) (fun v H2 => v = .non ∧ Q (.ref a) H2) E0) : wpAny (model X.prog X.w) X.A (call (.ref C) us) (EP X pins σ Q) X.xe s1 := by
  obtain ⟨nm, q, N, bs, bm, sn, sub, ab, col, dd, k0, k1, k2, k3, k5, hC, hbm⟩ := M.o.cls
  obtain ⟨fI, fd, iC, tI, F1, hb⟩ := M.ini
  obtain ⟨hp, g, dr, tk, os⟩ := s1
  have hsz : hp.objs.size ≤ hp.objs.size + 1 := Nat.le_succ _
  have hn : H1 (hp.objs.size + 1) = none := I1.hok.fresh hsz
  have hq := h (hp.objs.size + 1) hn
  have kk : ∀ b o, hp.get? b = some o → ((hp.push (PySem.W.kdv_tup us)).push (PySem.HandSPX.excO C hp.objs.size)).get? b = some o := fun b o e => Heap.get?_push_of_some _ (Heap.get?_push_of_some _ e)
  have hget : ((hp.push (PySem.W.kdv_tup us)).push (PySem.HandSPX.excO C hp.objs.size)).get? (hp.objs.size + 1) = some (PySem.HandSPX.excO C hp.objs.size) := by heap_get
  have I2 : Inv X pins σ (upd H1 (hp.objs.size + 1) (exo (hp.objs.size + 1) C none)) ⟨(hp.push (PySem.W.kdv_tup us)).push (PySem.HandSPX.excO C hp.objs.size), g, dr, tk, os⟩ :=
    I1.laid (t' := tk) (a := hp.objs.size + 1) (o := exo (hp.objs.size + 1) C none) (h' := (hp.push (PySem.W.kdv_tup us)).push (PySem.HandSPX.excO C hp.objs.size)) kk hsz (exo_ok hget)
  have r2 : Vals (V.ref (hp.objs.size + 1) :: vs) (Value.ref (hp.objs.size + 1) :: us) := .cons rfl r1
  have hl : (Value.ref (hp.objs.size + 1) :: us).length = ps.length := by
    have e := r2.length
    rw [F1.len _ _ _ _ hq] at e
    exact e.symm
  have hus : us.length ≤ sizeLine := by
    rw [← Paired.length r1, sizeLine_eq]
    omega
  have hb' := hb _ (Value.ref (hp.objs.size + 1) :: us) I2.kIn (by rw [List.append_nil]; exact hl)
  rw [List.append_nil] at hb'
  refine wpAny_call (PySem.HandSPX.call_own F.excBase_ValueError (fun Y => PySem.HandSPX.refsVE_contains Y bm hbm) (I1.kIn _ _ hC) (PySem.W.looks_findIn I1.kIn iC) (fun self => PySem.W.bind_fn I1.kIn self tI) hus
    (codeAny_mono (F1.run _ X.stack _ _ ⟨Value.ref (hp.objs.size + 1) :: us, []⟩ (Value.ref (hp.objs.size + 1) :: us) _ _ E0 (hr.make C us []) (I2.env0.make C us []) hb' r2 hq) fun r s' hq' => ?_))
  cases r with
  | error er => exact passL pins σ _ _ er s' I2 hq'
  | ok fl =>
    cases fl with
    | ret u =>
      obtain ⟨v, H2, os2, bare2, un2, hok2, rv, ev, q2⟩ := hq'
      subst ev
      obtain ⟨h2, g2, d2, t2, os'⟩ := s'
      obtain rfl : os' = os := os2
      exact ⟨rv, ⟨.ref (hp.objs.size + 1), H2, by
        have J := I2.call (h' := h2) (g' := g2) (d' := d2) (t' := t2) (ch := []) un2 hok2 bare2 (fun b z => absurd z (by simp))
        exact J, rfl, q2⟩⟩
    | next => exact False.elim hq'
    | brk => exact False.elim hq'
    | cont => exact False.elim hq'
/-- C(e, ..) as a value, C's own __init__ keeping sp -/
def yMkV (C : Addr) (sp : Sp) (ta : TA) : TE := fun σ H Q => ta σ H fun vs H1 => vs.length ≤ 1000 ∧ ∀ a, H1 a = none → sp (.ref a :: vs) (upd H1 a (exo a C none)) (fun v H2 => v = .non ∧ Q (.ref a) H2) E0
section
variable {X : Cx} {x : Str} {C : Addr} {ps : List Str} {sp : Sp} {ta : TA} {e : Expr} {es : List Expr} {p pos : Pos}
theorem ye_mkV (M : Mk X.prog X.w X.K X.mg X.base x C ps sp) (hr : Room 2 X.A) (hg : Gl X x) (ha : PA X (e :: es) ta)
    (hdb : (x == ("__debug__" : Str)) = false := by decide) (he : starEach (e :: es) X.env = (false, eval e X.env) :: starEach es X.env := by rfl) (hpl : (backTo pos (starEach es X.env)).any (·.1) = false := by rfl) :
    PE X (.Call (.Name x p) (e :: es) [] pos) (yMkV C sp ta) := by
  refine ⟨fun pins s σ H Q I h => ?_⟩
  refine wpAny_Call_Name_kw (ld_glob I hg M.glob ?_ hdb)
  refine PySem.W.callWith_K (h₀ := X.base) I.ok.mod.kin M.o.kC (thn (ha.run pos pins s σ H _ I h) fun us s1 ⟨vs, H1, I1, r1, hz, q1⟩ => ⟨I1.kIn, ?_⟩) he hpl
  exact mk_run M hr I1 r1 hz q1
theorem ye_mkV0 (M : Mk X.prog X.w X.K X.mg X.base x C ps sp) (hr : Room 2 X.A) (hg : Gl X x) (hdb : (x == ("__debug__" : Str)) = false := by decide) :
    PE X (.Call (.Name x p) [] [] pos) (yMkV C sp tNil) := by
  refine ⟨fun pins s σ H Q I h => ?_⟩
  refine wpAny_Call_Name_kw (ld_glob I hg M.glob ?_ hdb)
  exact PySem.W.callWith_K0 I.kIn M.o.kC (mk_run M hr I .nil h.1 h.2)
end
/-! ### raising one -/
theorem mk_endN {X : Cx} {pins : List (Addr × Obj)} {σ : L2.St} {H1 H2 : Hp} {Q : XK} {hp hp2 h2 : Heap} {g1 g2 : Array GenState} {d1 d2 : Drawn} {t1 t2 : Nat} {os1 os2 : OsState} {a C : Addr} (T : Raises X (.ref C)) (I1 : Inv X pins σ H1 ⟨hp, g1, d1, t1, os1⟩)
    (ha : hp.objs.size ≤ a) (k : ∀ b o, hp.get? b = some o → hp2.get? b = some o) (un : Un (frs X.stack) [] (upd H1 a (exo a C none)) H2 hp2 h2) (hok : HOk X.prog X.w H2 h2) (ho : os2 = os1) (hb : AllBare g2)
    (ea : H2 a = some (exo a C none)) (q : Q (.ref C) none (del H2 a)) : MkP X pins σ Q (.ref a) ⟨h2, g2, d2, t2, os2⟩ := by
  obtain ⟨t0, hoe⟩ := exo_at hok ea
  have hn : H1 a = none := I1.hok.fresh ha
  obtain ⟨G, g1', g2'⟩ := restrict h2 fun b => decide (b ≠ a)
  have gk : ∀ b, b ≠ a → G.get? b = h2.get? b := fun b hb => g1' b (decide_eq_true hb)
  have ge : G.get? a = none := g2' a (by simp)
  have nha : ∀ {b : Addr} {o : Obj}, hp.get? b = some o → b ≠ a := fun {b o} z => Nat.ne_of_lt (Nat.lt_of_lt_of_le (Heap.lt_size z) ha)
  have up : ∀ {b : Addr}, b ≠ a → H1 b = none → upd H1 a (exo a C none) b = none := fun {b} hb n => by rw [upd_ne hb]; exact n
  have U : Un (frs X.stack) [] H1 (del H2 a) hp G := {
    keep := fun b o z n hf hx => by
      rw [gk b (nha z)]
      exact un.keep b o (k b o z) (up (nha z) n) hf hx
    slot := fun b o z n hf hx => by
      rw [gk b (nha z)]
      exact un.slot b o (k b o z) (up (nha z) n) hf hx
    free := fun b o z n hx => by
      rw [del_ne (nha z)]
      exact un.free b o (k b o z) (up (nha z) n) hx
    there := fun b o z hx => by
      rw [gk b (nha z)]
      exact un.there b o (k b o z) hx
    tups := fun b xs z => by
      rw [del_ne (ne_of_none z hn)]
      exact un.tups b xs (by rw [upd_ne (ne_of_none z hn)]; exact z)
    frzs := fun b o v z => by
      rw [del_ne (ne_of_none z hn)]
      exact un.frzs b o v (by rw [upd_ne (ne_of_none z hn)]; exact z)
    tbls := fun b ps z => by
      rw [del_ne (ne_of_none z hn)]
      exact un.tbls b ps (by rw [upd_ne (ne_of_none z hn)]; exact z) }
  have hok3 : HOk X.prog X.w (del H2 a) G := fun b o z => by
    have hba : b ≠ a := fun e => by
      rw [e, del_same] at z
      cases z
    rw [del_ne hba] at z
    have noa : ∀ {c : Addr}, H2 c = some (.own b) → c ≠ a := fun {c} hc => at_ne ea hc exo_own
    exact (hok b o z).stay (fun c v hc y => by
        have hca : c ≠ a := by
          rcases hc with hc | hc
          · rw [hc]
            exact hba
          · exact noa hc
        rw [gk c hca]
        exact y)
      (fun c hc => by rw [del_ne (noa hc)]; exact hc) (fun c xs hc => by rw [del_ne (at_ne ea hc exo_tup)]; exact hc)
  have J : Inv X pins σ (del H2 a) ⟨G, g2, d2, t2, os2⟩ := I1.call' (ch := []) ho U hok3 hb (fun b z => absurd z (by simp))
  refine ⟨a, _, _, ⟨G, g2, d2, t2, os2⟩, _, .ref C, none, rfl, J, fun b o z => ?_, ge, hoe, ⟨rfl, rfl⟩, rfl, rfl, del_same, rfl, hb, T, q⟩
  by_cases hba : b = a
  · rw [hba, ge] at z
    cases z
  · exact (gk b hba).symm.trans z
/-- what the wish of a raised exception is told -/
def exW (C : Addr) (Q : XK) (H1 : Hp) (a : Addr) : VK := fun v H2 => v = .non ∧ ((H2 a = some (exo a C none) ∧ Q (.ref C) none (del H2 a)) ∨
  ∃ (d : Addr) (fs : List (Str × V)), H2 a = some (exo a C (some d)) ∧ H2 d = some (exd d fs) ∧ H1 d = none ∧ Q (.ref C) (some d) (upd (del H2 a) d (.xd fs)))
theorem mk_raise {X : Cx} {x : Str} {C : Addr} {ps : List Str} {sp : Sp} (M : Mk X.prog X.w X.K X.mg X.base x C ps sp) (hr : Room 2 X.A) {pins : List (Addr × Obj)} {σ : L2.St} {H1 : Hp} {s1 : Shared} {us : List Value} {vs : List V} {Q : XK}
    (I1 : Inv X pins σ H1 s1) (r1 : Vals vs us) (hz : vs.length ≤ 1000) (h : ∀ a, H1 a = none → sp (.ref a :: vs) (upd H1 a (exo a C none)) (exW C Q H1 a) E0) : wpAny (model X.prog X.w) X.A (call (.ref C) us) (MkP X pins σ Q) X.xe s1 := by
  obtain ⟨nm, q, N, bs, bm, sn, sub, ab, col, dd, k0, k1, k2, k3, k5, hC, hbm⟩ := M.o.cls
  obtain ⟨fI, fd, iC, tI, F1, hb⟩ := M.ini
  obtain ⟨hp, g, dr, tk, os⟩ := s1
  have hsz : hp.objs.size ≤ hp.objs.size + 1 := Nat.le_succ _
  have hn : H1 (hp.objs.size + 1) = none := I1.hok.fresh hsz
  have hq := h (hp.objs.size + 1) hn
  have kk : ∀ b o, hp.get? b = some o → ((hp.push (PySem.W.kdv_tup us)).push (PySem.HandSPX.excO C hp.objs.size)).get? b = some o := fun b o e => Heap.get?_push_of_some _ (Heap.get?_push_of_some _ e)
  have hget : ((hp.push (PySem.W.kdv_tup us)).push (PySem.HandSPX.excO C hp.objs.size)).get? (hp.objs.size + 1) = some (PySem.HandSPX.excO C hp.objs.size) := by heap_get
  have I2 : Inv X pins σ (upd H1 (hp.objs.size + 1) (exo (hp.objs.size + 1) C none)) ⟨(hp.push (PySem.W.kdv_tup us)).push (PySem.HandSPX.excO C hp.objs.size), g, dr, tk, os⟩ :=
    I1.laid (t' := tk) (a := hp.objs.size + 1) (o := exo (hp.objs.size + 1) C none) (h' := (hp.push (PySem.W.kdv_tup us)).push (PySem.HandSPX.excO C hp.objs.size)) kk hsz (exo_ok hget)
  have r2 : Vals (V.ref (hp.objs.size + 1) :: vs) (Value.ref (hp.objs.size + 1) :: us) := .cons rfl r1
  have hl : (Value.ref (hp.objs.size + 1) :: us).length = ps.length := by
    have e := r2.length
    rw [F1.len _ _ _ _ hq] at e
    exact e.symm
  have hus : us.length ≤ sizeLine := by
    rw [← Paired.length r1, sizeLine_eq]
    omega
  have hb' := hb _ (Value.ref (hp.objs.size + 1) :: us) I2.kIn (by rw [List.append_nil]; exact hl)
  rw [List.append_nil] at hb'
  refine wpAny_call (PySem.HandSPX.call_own F.excBase_ValueError (fun Y => PySem.HandSPX.refsVE_contains Y bm hbm) (I1.kIn _ _ hC) (PySem.W.looks_findIn I1.kIn iC) (fun self => PySem.W.bind_fn I1.kIn self tI) hus
    (codeAny_mono (F1.run _ X.stack _ _ ⟨Value.ref (hp.objs.size + 1) :: us, []⟩ (Value.ref (hp.objs.size + 1) :: us) _ _ E0 (hr.make C us []) (I2.env0.make C us []) hb' r2 hq) fun r s' hq' => ?_))
  cases r with
  | error er => exact passL pins σ _ _ er s' I2 hq'
  | ok fl =>
    cases fl with
    | ret u =>
      obtain ⟨v, H2, os2, bare2, un2, hok2, rv, ev, q2⟩ := hq'
      subst ev
      obtain ⟨h2, g2, d2, t2, os'⟩ := s'
      refine ⟨rv, ?_⟩
      rcases q2 with ⟨ea, q2⟩ | ⟨d, fs, ea, ed, hd1, q2⟩
      · exact mk_endN (raises_own M.o.exC M.o.tyC) I1 hsz kk un2 hok2 os2 bare2 ea q2
      · exact mk_end (raises_own M.o.exC M.o.tyC) I1 hsz kk un2 hok2 os2 bare2 ea ed hd1 q2
    | next => exact False.elim hq'
    | brk => exact False.elim hq'
    | cont => exact False.elim hq'
def yMkR (C : Addr) (sp : Sp) (ta : TA) : L2.St → Hp → XK → Prop := fun σ H Q => ta σ H fun vs H1 => vs.length ≤ 1000 ∧ ∀ a, H1 a = none → sp (.ref a :: vs) (upd H1 a (exo a C none)) (exW C Q H1 a) E0
section
variable {X : Cx} {x : Str} {C : Addr} {ps : List Str} {sp : Sp} {ta : TA} {e : Expr} {es : List Expr} {p pos : Pos}
theorem pm_mk (M : Mk X.prog X.w X.K X.mg X.base x C ps sp) (hr : Room 2 X.A) (hg : Gl X x) (ha : PA X (e :: es) ta)
    (hdb : (x == ("__debug__" : Str)) = false := by decide) (he : starEach (e :: es) X.env = (false, eval e X.env) :: starEach es X.env := by rfl) (hpl : (backTo pos (starEach es X.env)).any (·.1) = false := by rfl) :
    PMk X (.Call (.Name x p) (e :: es) [] pos) (yMkR C sp ta) := by
  intro pins s σ H Q I h
  refine wpAny_Call_Name_kw (ld_glob I hg M.glob ?_ hdb)
  refine PySem.W.callWith_K (h₀ := X.base) I.ok.mod.kin M.o.kC (thn (ha.run pos pins s σ H _ I h) fun us s1 ⟨vs, H1, I1, r1, hz, q1⟩ => ⟨I1.kIn, ?_⟩) he hpl
  exact mk_raise M hr I1 r1 hz q1
theorem pm_mk0 (M : Mk X.prog X.w X.K X.mg X.base x C ps sp) (hr : Room 2 X.A) (hg : Gl X x) (hdb : (x == ("__debug__" : Str)) = false := by decide) :
    PMk X (.Call (.Name x p) [] [] pos) (yMkR C sp tNil) := by
  intro pins s σ H Q I h
  refine wpAny_Call_Name_kw (ld_glob I hg M.glob ?_ hdb)
  exact PySem.W.callWith_K0 I.kIn M.o.kC (mk_raise M hr I .nil h.1 h.2)
end
/-! ### what the makes come to -/
theorem del_upd2 {H : Hp} {a d : Addr} {o1 o2 : HO} {fs : List (Str × V)} {o3 : HO} (ha : H a = none) (hd : d ≠ a) : upd (del (upd (upd (upd H a o1) d o2) a o3) a) d (.xd fs) = upd H d (.xd fs) := by
  funext b
  by_cases h1 : b = d
  · rw [h1, upd_same, upd_same]
  · rw [upd_ne h1, upd_ne h1]
    by_cases h2 : b = a
    · rw [h2, del_same, ha]
    · rw [del_ne h2, upd_ne h2, upd_ne h1, upd_ne h2]
theorem del_upd1 {H : Hp} {a : Addr} {o : HO} (ha : H a = none) : del (upd H a o) a = H := by
  funext b
  by_cases h2 : b = a
  · rw [h2, del_same, ha]
  · rw [del_ne h2, upd_ne h2]
theorem mkR0 {C : Addr} {Q : XK} {H : Hp} (q : Q (.ref C) none H) : ∀ a, H a = none → spI0 C [.ref a] (upd H a (exo a C none)) (exW C Q H a) E0 := fun a ha =>
  ⟨a, rfl, upd_same, rfl, .inl ⟨upd_same, by rw [del_upd1 ha]; exact q⟩⟩
theorem mkR1 {C : Addr} {f : Str} {ok : V → Prop} {v : V} {Q : XK} {H : Hp} (hv : ok v) (q : ∀ d, H d = none → Q (.ref C) (some d) (upd H d (.xd [(f, v)]))) : ∀ a, H a = none → spI1 C f ok [.ref a, v] (upd H a (exo a C none)) (exW C Q H a) E0 := fun a ha =>
  ⟨a, v, rfl, upd_same, hv, fun dx hd hne => ⟨rfl, .inr ⟨dx, _, upd_same, by rw [upd_ne hne, upd_same], by rw [upd_ne hne] at hd; exact hd, by
    rw [del_upd2 ha hne]
    exact q dx (by rw [upd_ne hne] at hd; exact hd)⟩⟩⟩
theorem mkV0 {C : Addr} {Q : VK} {H : Hp} (q : ∀ a H', Ext H H' → H a = none → ExAt H' a C [] → Q (.ref a) H') : ∀ a, H a = none → spI0 C [.ref a] (upd H a (exo a C none)) (fun v H2 => v = .non ∧ Q (.ref a) H2) E0 := fun a ha =>
  ⟨a, rfl, upd_same, rfl, q a _ (.new ha) ha (.inl ⟨rfl, upd_same⟩)⟩
theorem mkV1 {C : Addr} {f : Str} {ok : V → Prop} {v : V} {Q : VK} {H : Hp} (hv : ok v) (q : ∀ a H', Ext H H' → H a = none → ExAt H' a C [(f, v)] → Q (.ref a) H') : ∀ a, H a = none → spI1 C f ok [.ref a, v] (upd H a (exo a C none)) (fun v H2 => v = .non ∧ Q (.ref a) H2) E0 := fun a ha =>
  ⟨a, v, rfl, upd_same, hv, fun dx hd hne => ⟨rfl, q a _ (.mut (.mut (.new ha) (by rw [upd_ne hne] at hd; exact hd)) ha) ha (.inr ⟨dx, upd_same, by rw [upd_ne hne, upd_same]⟩)⟩⟩
end Eb

namespace Eb
open PySem PySem.Spec PyProof.Rows L2
/-! ### the package's __init__s -/
structure XcFn (P : Program) (K : PySem.W.Frag) (C f : Addr) (qual : Str) (st : Stmt) (fd : FuncData) : Prop where
  ex : ∃ (oc : Value) (od : Option Addr) (kV doc pm : Value) (an : Option Addr) (cda : Addr) (ct : Value) (cc : Addr) (osl : Array (Option Value)),
    fd = PySem.W.ksFn "__init__" qual (defArgs st) (defBody st) (defScope st) .none kV doc pm an (.ref cda) ct cc ∧ K.lookup f = some ⟨oc, od, .func fd, osl⟩ ∧ PySem.W.codeIn K (.ref cda) qual = true ∧ XcC P K C cda cc
/-- a value that is put into a text -/
def fmtOk : V → Prop
  | .str y => y.length ≤ 1000000
  | .int i => i.natAbs.log2 < 1920
  | _ => False
/-- what is said of the parameter x, its i-th name, and only that -/
def Says (x : Str) (i : Nat) (ok : V → Prop) (e : Expr) : Prop := ∀ X : Cx, X.N[i]? = some x → Vis X.env.scope x → ∃ te, PE X e te ∧ ∀ σ H Q v, σ[i]? = some (some v) → ok v → (∀ s, Q (.str s) H) → te σ H Q
section
variable {x : Str} {i : Nat} {ok : V → Prop}
theorem says_const {m : Str} {j : Nat} {p : Pos} : Says x i ok (.Constant (.str m) j p) := fun X _ _ => ⟨_, pe_str, fun σ H Q v _ _ q => q m⟩
theorem fmt_run {X : Cx} (σ : L2.St) (H : Hp) (Q : VK) (v : V) (e : σ[i]? = some (some v)) (h : fmtOk v) (q : ∀ y : Str, y.length ≤ 1000000 → Q (.str y) H) : tFmt (tVar i) σ H Q := by
  refine ⟨v, e, ?_⟩
  cases v with
  | str y => exact .inl ⟨y, rfl, Nat.le_trans h (by rw [sizeLine_eq]; decide), q y h⟩
  | int a =>
    have l : (toString a).length ≤ 1921 := int_text_length_le (k := 1920) (by decide) h
    exact .inr ⟨a, rfl, h, q _ (by
      show (Str.ofString (toString a)).length ≤ 1000000
      rw [PySem.ofString_length]
      omega)⟩
  | _ => exact h.elim
theorem cat_le {a b : Str} {n k : Nat} (h1 : a.length ≤ n) (h2 : b.length ≤ k) (h : n + k ≤ 16777216) : (a ++ b).length ≤ sizeLine := by
  rw [sizeLine_eq]
  have e : (a ++ b).length = a.length + b.length := by
    show (a.cps ++ b.cps).size = a.cps.size + b.cps.size
    rw [Array.size_append]
  omega
theorem says_f2 {m : Str} {j : Nat} {p p2 p3 p4 : Pos} (hm : m.length ≤ 1000) (hd : (x == ("__debug__" : Str)) = false) (hcd : (x == ("__classdict__" : Str)) = false) : Says x i fmtOk (.JoinedStr [.Constant (.str m) j p, .FormattedValue (.Name x p2) (-1) none p3] p4) := fun X hN hv =>
  ⟨_, pe_joined (PJ.cons pe_str (PJ.cons (pe_fmt (pe_var hN hv hd hcd)) PJ.nil)), fun σ H Q v e h q => ⟨m, rfl, cat_le (n := 0) (Nat.zero_le _) hm (by decide), fmt_run (X := X) σ H _ v e h fun y hy =>
    ⟨y, rfl, cat_le (n := 1000) (k := 1000000) (by
      have : (Str.empty ++ m).length = m.length := by
        show (Str.empty.cps ++ m.cps).size = m.cps.size
        rw [Array.size_append]
        exact Nat.zero_add _
      omega) hy (by decide), q _⟩⟩⟩
theorem says_f3 {m m2 : Str} {j j2 : Nat} {p p2 p3 p4 p5 : Pos} (hm : m.length ≤ 1000) (hm2 : m2.length ≤ 1000) (hd : (x == ("__debug__" : Str)) = false) (hcd : (x == ("__classdict__" : Str)) = false) : Says x i fmtOk (.JoinedStr [.Constant (.str m) j p, .FormattedValue (.Name x p2) (-1) none p3, .Constant (.str m2) j2 p5] p4) := fun X hN hv =>
  ⟨_, pe_joined (PJ.cons pe_str (PJ.cons (pe_fmt (pe_var hN hv hd hcd)) (PJ.cons pe_str PJ.nil))), fun σ H Q v e h q => ⟨m, rfl, cat_le (n := 0) (Nat.zero_le _) hm (by decide), fmt_run (X := X) σ H _ v e h fun y hy => by
    have e1 : (Str.empty ++ m).length = m.length := by
      show (Str.empty.cps ++ m.cps).size = m.cps.size
      rw [Array.size_append]
      exact Nat.zero_add _
    have e2 : (Str.empty ++ m ++ y).length = m.length + y.length := by
      show ((Str.empty ++ m).cps ++ y.cps).size = _
      rw [Array.size_append]
      show (Str.empty ++ m).length + y.length = _
      rw [e1]
    exact ⟨y, rfl, cat_le (n := 1000) (k := 1000000) (by omega) hy (by decide), m2, rfl, cat_le (n := 1001000) (k := 1000) (by omega) hm2 (by decide), q _⟩⟩⟩
end
section
variable {P : Program} {w : World} {K : PySem.W.Frag} {mg : Str → Option Value} {base : Heap} {C f : Addr} {qual : Str} {st : Stmt} {fd : FuncData} {CX : CXT}
theorem ini0 {m : Str} {j : Nat} {p0 p1 p2 p3 p4 p5 : Pos} {ar : Arg} (F : XcFn P K C f qual st fd) (hmg : mg "super" = none) (hb : defBody st = [.Expr (.Call (.Attribute (.Call (.Name "super" p0) [] [] p1) "__init__" p2) [.Constant (.str m) j p5] [] p3) p4])
    (S : XScope ["self"] ["self"] (defScope st)) (hp : ((defArgs st).posonlyargs ++ (defArgs st).args).head? = some ar) (har : ar.arg = "self")
    (hev : ∀ env : Env, ∃ pl, eval (.Call (.Attribute (.Call (.Name "super" p0) [] [] p1) "__init__" p2) [.Constant (.str m) j p5] [] p3) env = (do
      let ov ← attributeBase (.Call (.Name "super" p0) [] [] p1) "__init__" env (eval (.Call (.Name "super" p0) [] [] p1) env)
      standAt p2.atName
      let (f, first) ← holding [ov] (getMethod ov "__init__" pl)
      callWith p3 f first (backTo p3 (starEach [.Constant (.str m) j p5] env)) []) := by exact fun _ => ⟨_, rfl⟩)
    (hsw : ∀ env : Env, swapsWith (.Call (.Attribute (.Call (.Name "super" p0) [] [] p1) "__init__" p2) [.Constant (.str m) j p5] [] p3) none p4.line env = pure false := by exact fun _ => rfl) : FnOk P w K mg base CX 1 f fd ["self"] (spI0 C) := by
  obtain ⟨oc, od, kV, doc, pm, an, cda, ct, cc, osl, rfl, lk, hcd, T⟩ := F.ex
  refine xc_ok lk hcd T hb S (fun vs H Q E ⟨a, e, _⟩ => by rw [e]; rfl) hp (by rw [har]; rfl) hmg (fun A outer s H vs Q E hr ⟨a, e, ha, q⟩ => ?_) (fun _ => rfl) (fun _ => rfl) hev hsw
  exact ⟨a, [], _, _, e, ha, pa_cons pe_str pa_nil, pss_nil, (show 1 ≤ 1000 by decide), ha, q⟩
theorem ini1 {x fn : Str} {ok : V → Prop} {e : Expr} {p0 p1 p2 p3 p4 q1 q2 q3 q4 : Pos} {ar : Arg} (F : XcFn P K C f qual st fd) (hmg : mg "super" = none)
    (hb : defBody st = [.Expr (.Call (.Attribute (.Call (.Name "super" p0) [] [] p1) "__init__" p2) [e] [] p3) p4, .Assign [.Attribute (.Name "self" q1) fn q2] (.Name x q3) q4])
    (S : XScope ["self", x] ["self", x] (defScope st)) (hp : ((defArgs st).posonlyargs ++ (defArgs st).args).head? = some ar) (har : ar.arg = "self") (hno : PySem.W.findIn K (.ref C) fn = some none) (hs : Says x 1 ok e)
    (hd : (x == ("__debug__" : Str)) = false) (hcd : (x == ("__classdict__" : Str)) = false)
    (he : ∀ env : Env, starEach [e] env = (false, eval e env) :: starEach [] env := by exact fun _ => rfl) (hpl : ∀ env : Env, (backTo p3 (starEach [] env)).any (·.1) = false := by exact fun _ => rfl)
    (hev : ∀ env : Env, ∃ pl, eval (.Call (.Attribute (.Call (.Name "super" p0) [] [] p1) "__init__" p2) [e] [] p3) env = (do
      let ov ← attributeBase (.Call (.Name "super" p0) [] [] p1) "__init__" env (eval (.Call (.Name "super" p0) [] [] p1) env)
      standAt p2.atName
      let (f, first) ← holding [ov] (getMethod ov "__init__" pl)
      callWith p3 f first (backTo p3 (starEach [e] env)) []) := by exact fun _ => ⟨_, rfl⟩)
    (hsw : ∀ env : Env, swapsWith (.Call (.Attribute (.Call (.Name "super" p0) [] [] p1) "__init__" p2) [e] [] p3) none p4.line env = pure false := by exact fun _ => rfl)
    (hsw2 : ∀ env : Env, swapsWith (.Name x q3) (some (.Attribute (.Name "self" q1) fn q2)) q4.line env = pure false := by exact fun _ => rfl) : FnOk P w K mg base CX 1 f fd ["self", x] (spI1 C fn ok) := by
  obtain ⟨oc, od, kV, doc, pm, an, cda, ct, cc, osl, rfl, lk, hcd', T⟩ := F.ex
  refine xc_ok lk hcd' T hb S (fun vs H Q E ⟨a, v, e, _⟩ => by rw [e]; rfl) hp (by rw [har]; rfl) hmg (fun A outer s H vs Q E hr ⟨a, v, ev, ha, hv, q⟩ => ?_) he hpl hev hsw
  obtain ⟨te, h1, h2⟩ := hs (xcCx CX P w K mg base ["self", x] qual (defScope st) f cda cc A outer s H E) rfl (.inl (S.par x (by simp)))
  refine ⟨a, [v], _, _, ev, ha, pa_cons h1 pa_nil (he _), pss_one (ps_ost (pe_var (i := 0) rfl (.inl (S.par "self" (by simp)))) (pe_var (i := 1) rfl (.inl (S.par x (by simp))) hd hcd) (hsw2 _)), ?_⟩
  subst ev
  refine h2 _ _ _ v rfl hv fun s => ⟨(show 1 ≤ 1000 by decide), ha, v, rfl, .ref a, rfl, a, C, rfl, T.o, hno, .inl ⟨ha, fun dx hdx hne => q dx hdx hne⟩⟩
end
end Eb

/-! The head's facts, with exception classes whose __init__ closes over __class__. -/
namespace Eb
open PySem PySem.Spec PyProof.Rows L2 He
def asE (g : Addr → Option Obj) : Nat → List Addr
  | 0 => [mainGlobals, cStatics]
  | n + 1 => growD g (asE g n)
structure XD where
  cls : Str
  qual : Str
  params : Arguments
  body : List Stmt
  scope : Scope
abbrev XfW : Type := Option (Str × Str × Arguments × FuncBody × Scope × Addr × List Str × Addr)
def xfW (K : PySem.W.Frag) (x : Str) : XfW := match K.lookup (fAd K (x, some "__init__")) with
  | some ⟨_, _, .func fd, _⟩ => some (fd.name, fd.qualname, fd.params, fd.body, fd.scope, fd.globals, fd.closure.map (·.1), fd.builtins)
  | _ => none
def XD.val (d : XD) : XfW := some ("__init__", d.qual, d.params, .stmts d.body, d.scope, mainGlobals, ["__class__"], builtinsNs)
def oexB (K : PySem.W.Frag) (C : Addr) : Bool := match K.lookup C with
  | some ⟨.type t, _, .cls cd, sl⟩ => (match cd.mro, sl.toList with
    | .ref C' :: bm, [_, _, _, _, some (.builtin n), _] => decide (t = "type") && (decide (C' = C) && (decide (n = "ValueError.__new__") && (!cd.hasDel && (cd.hasDict && PySem.HandSPX.refsVE bm))))
    | _, _ => false)
  | _ => false
theorem oexB_ok {K : PySem.W.Frag} {C : Addr} (h : oexB K C = true) : ∃ nm q N bs bm sn sub ab col dd k0 k1 k2 k3 k5, K.lookup C = some (excClassObj nm q C N bs bm true sn sub ab col dd k0 k1 k2 k3 k5 "ValueError.__new__") ∧ PySem.HandSPX.refsVE bm = true := by
  unfold oexB at h
  split at h
  · rename_i t dd cd sl ho
    split at h
    · rename_i C' bm k0 k1 k2 k3 n k5 hm hs
      obtain ⟨h0, h⟩ := ba h
      obtain ⟨h1, h⟩ := ba h
      obtain ⟨h2, h⟩ := ba h
      obtain ⟨h3, h⟩ := ba h
      obtain ⟨h4, h5⟩ := ba h
      have e0 := of_decide_eq_true h0
      have e1 := of_decide_eq_true h1
      have e2 := of_decide_eq_true h2
      have e3 : cd.hasDel = false := by
        cases z : cd.hasDel with
        | false => rfl
        | true => rw [z] at h3; cases h3
      subst e0 e1 e2
      obtain ⟨nm, bs, mro, ns, qn, hd, sn, sub, ab, col, del⟩ := cd
      dsimp only at hm e3 h4
      subst hm e3 h4
      have hsl : sl = #[k0, k1, k2, k3, some (.builtin "ValueError.__new__"), k5] := by
        obtain ⟨l⟩ := sl
        simp only at hs
        rw [hs]
      subst hsl
      exact ⟨nm, qn, ns, bs, bm, sn, sub, ab, col, dd, k0, k1, k2, k3, k5, ho, h5⟩
    · cases h
  · cases h
def codeB (P : Program) (K : PySem.W.Frag) (cda : Addr) : Bool := match K.lookup cda with
  | some ⟨_, _, .fields vs, _⟩ => (match (vs[2]? : Option Value) with
    | some (Value.str file _) => (P.main.file == file)
    | _ => false)
  | _ => false
theorem codeB_ok {P : Program} {K : PySem.W.Frag} {cda : Addr} (h : codeB P K cda = true) : ∃ ccl cdd vs ccs file tf, K.lookup cda = some ⟨ccl, cdd, .fields vs, ccs⟩ ∧ vs[2]? = some (.str file tf) ∧ (P.main.file == file) = true := by
  unfold codeB at h
  split at h
  · rename_i ho
    split at h
    · rename_i hv
      exact ⟨_, _, _, _, _, _, ho, hv, h⟩
    · cases h
  · cases h
def cellB (K : PySem.W.Frag) (cc C : Addr) : Bool := match K.lookup cc with
  | some ⟨_, _, .cell (some (.ref D)), _⟩ => decide (D = C)
  | _ => false
theorem cellB_ok {K : PySem.W.Frag} {cc C : Addr} (h : cellB K cc C = true) : ∃ cl cld csl, K.lookup cc = some ⟨cl, cld, .cell (some (.ref C)), csl⟩ := by
  unfold cellB at h
  split at h
  · rename_i ho
    have e := of_decide_eq_true h
    subst e
    exact ⟨_, _, _, ho⟩
  · cases h
def finB (P : Program) (K : PySem.W.Frag) (x qual : Str) : Bool := match K.lookup (fAd K (x, some "__init__")) with
  | some ⟨_, _, .func fd, _⟩ => (match fd.code, fd.closure, fd.defaults with
    | .ref cda, [(_, cc)], .none => PySem.W.codeIn K (.ref cda) qual && (codeB P K cda && cellB K cc (ga K x))
    | _, _, _ => false)
  | _ => false
def eqV (a b : Option Value) : Bool := decide (a = b)
def eqB (a : Option Bool) (b : Bool) : Bool := decide (a = some b)
/-- all that is asked of a class of the package's errors -/
def xcB (P : Program) (K : PySem.W.Frag) (x qual : Str) : Bool := oexB K (ga K x) && (eqO (PySem.W.findIn K (.ref (ga K x)) "__setattr__") (some (some (.builtin "object.__setattr__"))) && (eqB (PySem.W.subIn K (.ref (ga K x)) (.type "BaseException")) true &&
  (eqV (PySem.W.typeIn K (.ref (ga K x))) (some (.type "type")) && (PySem.W.keepIn K (.ref (ga K x)) && (finB P K x qual && (eqO (PySem.W.ks_superIn K (ga K x) (ga K x) "__init__") (some (some (.builtin "ValueError.__init__"))) &&
  (eqB (PySem.W.subIn K (.ref (ga K x)) (.type "ValueError")) true && (eqB (PySem.W.mroIn K (ga K x) (.ref (ga K x))) true && (eqO (PySem.W.nsIn K cStatics "thirdparty.any") (some none) && (!(P.main.scope.names.lookup ("super" : Str)).isSome &&
  (eqO (PySem.W.findIn K (.ref (ga K x)) "__init__") (some (some (.ref (fAd K (x, some "__init__"))))) && (eqV (PySem.W.typeIn K (.ref (fAd K (x, some "__init__")))) (some (.type "function")) && (xfB K (ga K x) &&
  (eqO (PySem.W.findIn K (.ref (ga K x)) "__class__") (some (some (.builtin "object.__class__"))) && (eqO (PySem.W.specialIn K (.builtin "object.__class__") "__get__") (some (some (.builtin "getset_descriptor.__get__"))) && (eqB (PySem.W.takesIn K (.builtin "object.__class__")) true &&
  eqB (PySem.W.mroIn K (ga K x) (.type "object")) true))))))))))))))))
structure XcAll (P : Program) (K : PySem.W.Frag) (x : Str) (st : Stmt) (qual : Str) (f : Addr) (fd : FuncData) : Prop where
  fn : XcFn P K (ga K x) f qual st fd
  o : OexC K (ga K x)
  ini : PySem.W.findIn K (.ref (ga K x)) "__init__" = some (some (.ref f))
  ty : PySem.W.typeIn K (.ref f) = some (.type "function")
  xf : XfC K (ga K x)
  ec : ExcC K (ga K x)
def mkXD (x qual : Str) (st : Stmt) : XD := ⟨x, qual, defArgs st, defBody st, defScope st⟩
theorem xc_all {P : Program} {K : PySem.W.Frag} {x qual : Str} {st : Stmt} (e : xfW K x = (mkXD x qual st).val) (h : xcB P K x qual = true) : ∃ f fd, XcAll P K x st qual f fd := by
  unfold xcB at h
  obtain ⟨h1, h⟩ := ba h
  obtain ⟨h2, h⟩ := ba h
  obtain ⟨h3, h⟩ := ba h
  obtain ⟨h4, h⟩ := ba h
  obtain ⟨h5, h⟩ := ba h
  obtain ⟨h6, h⟩ := ba h
  obtain ⟨h7, h⟩ := ba h
  obtain ⟨h8, h⟩ := ba h
  obtain ⟨h9, h⟩ := ba h
  obtain ⟨h10, h⟩ := ba h
  obtain ⟨h11, h⟩ := ba h
  obtain ⟨h12, h⟩ := ba h
  obtain ⟨h13, h⟩ := ba h
  obtain ⟨h14, h⟩ := ba h
  obtain ⟨h15, h⟩ := ba h
  obtain ⟨h16, h⟩ := ba h
  obtain ⟨h17, h18⟩ := ba h
  have O : OexC K (ga K x) := ⟨oexB_ok h1, eqO_ok h2, of_decide_eq_true h3, of_decide_eq_true h4, h5⟩
  have XF := xfB_ok h14
  unfold finB at h6
  unfold xfW at e
  split at h6
  · rename_i oc od fd osl lk
    rw [lk] at e
    split at h6
    · rename_i cda n cc hcd hcl hdf
      obtain ⟨c1, c2⟩ := ba h6
      obtain ⟨c3, c4⟩ := ba c2
      obtain ⟨n1, n2, n3, n4, n5, n6, n7, n8, n9, n10, n11, n12, n13, n14, n15⟩ := fd
      dsimp only at hcd hcl hdf
      subst hcd hcl hdf
      have e2 : (some (n1, n2, n3, n4, n5, n6, [n], n15) : XfW) = (some (("__init__" : Str), qual, defArgs st, FuncBody.stmts (defBody st), defScope st, mainGlobals, [("__class__" : Str)], builtinsNs) : XfW) := e
      simp only [Option.some.injEq, Prod.mk.injEq, List.cons.injEq, and_true] at e2
      obtain ⟨k1, k2, k3, k4, k5, k6, k7, k8⟩ := e2
      subst k1 k2 k3 k4 k5 k6 k7 k8
      have ht : (P.main.scope.names.lookup ("super" : Str)).isSome = false := by
        cases z : (P.main.scope.names.lookup ("super" : Str)).isSome with
        | false => rfl
        | true => rw [z] at h11; cases h11
      exact ⟨_, _, ⟨⟨oc, od, n9, n10, n11, n12, cda, n14, cc, osl, rfl, lk, c1, ⟨O, codeB_ok c3, cellB_ok c4, eqO_ok h7, of_decide_eq_true h8, of_decide_eq_true h9, eqO_ok h10, ht⟩⟩, O, eqO_ok h12, of_decide_eq_true h13, XF,
        ⟨XF.ga, XF.gg, XF.exC, XF.hdC, eqO_ok h15, eqO_ok h16, of_decide_eq_true h17, of_decide_eq_true h18⟩⟩⟩
    · cases h6
  · cases h6
/-! ### the Hook -/
structure HD where
  n : Nat
  fa : List Fa
  fn : List DefD
  ts : List Tab := []
  tf : List Defn := []
  xs : List XD := []
  ex : PySem.W.Frag → Bool := fun _ => true
abbrev AlE : Type := AlT × Bool × List XfW
def obsF (P : Program) (D : HD) (g : Addr → Option Obj) (K : PySem.W.Frag) : AlE := (obsT D.fa D.fn D.ts K, (D.ex K && tabsB g D.tf K) && D.xs.all (fun d => xcB P K d.cls d.qual), D.xs.map fun d => xfW K d.cls)
def obsFG (P : Program) (D : HD) (g : Addr → Option Obj) : AlE := obsF P D g (frT g (asE g D.n))
def valF (D : HD) (w : World) : AlE := (valT D.fn D.ts w, true, D.xs.map XD.val)
structure SaysF (P : Program) (D : HD) (w : World) (h : Heap) (K : PySem.W.Frag) : Prop where
  x : SaysX D.fa D.fn D.ts D.tf D.ex w h K
  c : ∀ d ∈ D.xs, xcB P K d.cls d.qual = true
  v : D.xs.map (fun d => xfW K d.cls) = D.xs.map XD.val
theorem saysF_of {P : Program} {D : HD} {w : World} {h : Heap} (e : obsFG P D h.get? = valF D w) : SaysF P D w h (frT h.get? (asE h.get? D.n)) := by
  have e1 : obsT D.fa D.fn D.ts (frT h.get? (asE h.get? D.n)) = valT D.fn D.ts w := congrArg (fun z : AlE => z.1) e
  have e2 : ((D.ex (frT h.get? (asE h.get? D.n)) && tabsB h.get? D.tf (frT h.get? (asE h.get? D.n))) && D.xs.all (fun d => xcB P (frT h.get? (asE h.get? D.n)) d.cls d.qual)) = true := congrArg (fun z : AlE => z.2.1) e
  have e3 : D.xs.map (fun d => xfW (frT h.get? (asE h.get? D.n)) d.cls) = D.xs.map XD.val := congrArg (fun z : AlE => z.2.2) e
  obtain ⟨e4, e5⟩ := ba e2
  obtain ⟨h1, h2⟩ := ba e4
  have key : ∀ p ∈ D.tf, PySem.W.codeHdIn (frT h.get? (asE h.get? D.n)) (cT (frT h.get? (asE h.get? D.n)) p).1 (cT (frT h.get? (asE h.get? D.n)) p).2 = true ∧ ∃ o, h.get? (cT (frT h.get? (asE h.get? D.n)) p).2 = some o ∧ emptyTab o = true := fun p hp => by
    obtain ⟨h3, h4⟩ := ba (List.all_eq_true.mp h2 p hp)
    refine ⟨h3, ?_⟩
    cases q : h.get? (cT (frT h.get? (asE h.get? D.n)) p).2 with
    | none =>
      rw [q] at h4
      cases h4
    | some o =>
      rw [q] at h4
      exact ⟨o, rfl, h4⟩
  exact ⟨⟨e1, h1, fun p hp => (key p hp).1, fun p hp => by
    obtain ⟨_, o, q, z⟩ := key p hp
    exact frT_none q z, fun p hp => by
    obtain ⟨_, o, q, z⟩ := key p hp
    rw [q, emptyTab_eq z]⟩, fun d hd => List.all_eq_true.mp e5 d hd, e3⟩
def hookF (P : Program) (D : HD) : PySem.W.Hook where
  α := AlE
  obs := fun s => obsFG P D s.heap.get?
  val := fun w => valF D w
  says := fun w h => ∃ K : PySem.W.Frag, K.In h ∧ SaysF P D w h K
  of := fun _ _ e => ⟨_, frT_in, saysF_of e⟩
  keeps := fun _ _ _ ⟨K, hK, c⟩ k => ⟨K, PySem.W.Frag.In.keeps hK k, ⟨⟨c.x.t, c.x.more, c.x.hd, c.x.out, fun p hp => k _ _ (c.x.empty p hp)⟩, c.c, c.v⟩⟩
theorem obsFG_eq {P : Program} {D : HD} {g : Addr → Option Obj} {s : Shared} (h : ∀ a, g a = s.heap.get? a) : obsFG P D g = (hookF P D).obs s := by
  have e : g = s.heap.get? := funext h
  rw [e] <;> rfl
section
variable {P : Program} {D : HD} {w : World} {h : Heap} {K : PySem.W.Frag}
theorem SaysF.d (c : SaysF P D w h K) : SaysD D.fa D.fn K := c.x.t.d
theorem SaysF.exc (c : SaysF P D w h K) {x qual : Str} {st : Stmt} (hm : mkXD x qual st ∈ D.xs) : ∃ f fd, XcAll P K x st qual f fd := by
  refine xc_all ?_ (c.c _ hm)
  obtain ⟨i, hi, e⟩ := List.mem_iff_getElem.mp hm
  have q : (D.xs.map (fun d => xfW K d.cls))[i]? = (D.xs.map XD.val)[i]? := by rw [c.v]
  rw [List.getElem?_map, List.getElem?_map, List.getElem?_eq_getElem hi, e] at q
  exact Option.some.inj q
/-- a class with its __init__'s promise -/
theorem mk_of_all {mg : Str → Option Value} {base : Heap} {x qual : Str} {st : Stmt} {ps : List Str} {sp : Sp} {f : Addr} {fd : FuncData} (A : XcAll P K x st qual f fd) (g : mg x = some (.ref (ga K x)))
    (ok : FnOk P w K mg base (L2.CX P w) 1 f fd ps sp)
    (hb : ∀ (kV doc pm : Value) (an : Option Addr) (cda : Addr) (ct : Value) (cc : Addr) (us : List Value), us.length = ps.length → bindArgs (PySem.W.ksFn "__init__" qual (defArgs st) (defBody st) (defScope st) .none kV doc pm an (.ref cda) ct cc) ⟨us, []⟩ = pure (ps.zip us)) :
    Mk P w K mg base x (ga K x) ps sp := by
  obtain ⟨oc, od, kV, doc, pm, an, cda, ct, cc, osl, rfl, _⟩ := A.fn.ex
  exact ⟨A.o, g, f, _, A.ini, A.ty, ok, .all (hb kV doc pm an cda ct cc)⟩
end
end Eb

/-! Further rules. -/
namespace Eb
open PySem PySem.Spec PyProof.Rows L2
def anyOk : V → Prop := fun _ => True
def zRepr : List V → Hp → VK → Prop := fun xs H Q => match xs with
  | [.int i] => i.natAbs.log2 < 1920 ∧ Q (.str (toString i)) H
  | [.str y] => (reprText y).length ≤ sizeLine ∧ Q (.str (reprText y)) H
  | [.bl b] => Q (.str (if b then "True" else "False")) H
  | _ => False
section
variable {X : Cx}
theorem cr_repr : CallR X (.builtin "repr") zRepr := by
  intro pins s σ H xs us Q I r h
  unfold zRepr at h
  split at h
  · obtain ⟨hz, q⟩ := h
    obtain ⟨u, rfl, t, rfl⟩ := vals1 r
    exact PySem.P.repr_of_int hz ⟨.str _, H, I.tok _, ⟨_, rfl⟩, q⟩
  · obtain ⟨hz, q⟩ := h
    obtain ⟨u, rfl, t, rfl⟩ := vals1 r
    exact PySem.P.repr_of_str ⟨.str _, H, I.tok _, ⟨_, rfl⟩, q⟩ hz
  · obtain ⟨u, rfl, e⟩ := vals1 r
    cases e
    exact PySem.P.repr_of_bool ⟨.str _, H, I.tok _, ⟨_, rfl⟩, h⟩
  · exact h.elim
theorem cr_sum (hc : X.calm = true := by rfl) : CallR X (.builtin "sum") (zSum X.K) := CallR.imp (L2.cr_sum hc) fun xs H Q q => by
  unfold zSum at q
  split at q
  · obtain ⟨ns, h1, h2⟩ := q
    exact ⟨_, ns, rfl, h1, h2⟩
  · exact q.elim
end
def yPar3 (i j l : Nat) (ta : TA) : TS := fun D σ H => ta σ H fun vs H1 => match vs with
  | [u, v, w] => D.nx (((σ.set i (some u)).set j (some v)).set l (some w)) H1
  | _ => False
theorem ys_par3 {X : Cx} {i j l : Nat} {st : Stmt} {ta : TA} (h : PS X st (tPar3 i j l (upA ta))) : PS X st (yPar3 i j l ta) :=
  PS.imp h fun D σ H q => ⟨_, q, fun vs H1 q1 => by
    match vs, q1 with
    | [u, v, w], q1 => exact ⟨u, v, w, rfl, q1⟩⟩
theorem upd_idem {H : Hp} {a : Addr} {o1 o2 : HO} : upd (upd H a o1) a o2 = upd H a o2 := by
  funext b
  by_cases h : b = a
  · rw [h, upd_same, upd_same]
  · rw [upd_ne h, upd_ne h, upd_ne h]
theorem log_1920 {n : Nat} (h : n < 2 ^ 60) : ((n : Nat) : Int).natAbs.log2 < 1920 := by
  have e : ((n : Nat) : Int).natAbs = n := by simp
  rw [e]
  by_cases h0 : n = 0
  · subst h0
    decide
  · exact Nat.lt_trans ((Nat.log2_lt h0).mpr h) (by decide)
/-- a plain comprehension over a list: what the i-th turn makes, nothing else done -/
theorem lc_list {K : PySem.W.Frag} {i : Nat} {tl te : TE} {σ : L2.St} {H : Hp} {Q : VK} {a : Addr} {xs : List V} (fv : V → V) (h : ∀ R, tl σ H R = R (.ref a) H) (hs : SqL K H a xs) (hl : xs.length < sizeLine)
    (hw : ∀ x, wipe ((wipe σ [i]).set i (some x)) [i] = wipe σ [i])
    (hf : ∀ D H' x Q', H D = none → Ext H H' → x ∈ xs → Q' (fv x) H' → te ((wipe σ [i]).set i (some x)) H' Q') (hq : ∀ D, H D = none → Q (.ref D) (upd H D (.lst (xs.map fv)))) : yLc (jLst K tl) (gName i) tYes te [i] σ H Q := by
  show tl σ H _
  rw [h]
  refine ⟨xs, hs, fun D hD => ⟨fun n acc H' => acc = (xs.take n).map fv ∧ H' = upd H D (.lst acc), ⟨by simp, rfl⟩, fun n acc H' hn ⟨e1, e2⟩ => ?_, fun n x acc H' H2 hn ⟨e1, e2⟩ y => ?_, fun acc H' ⟨e1, e2⟩ => ?_⟩⟩
  · subst e1 e2
    refine ⟨?_, upd_same, ?_⟩
    · exact (Kp.new hD).sqL hs
    · rw [List.length_map, List.length_take]
      omega
  · subst e1 e2
    obtain ⟨e, hx⟩ := y
    subst e
    refine ⟨hw x, brT rfl (hf D _ x _ hD (Ext.new hD) (List.mem_of_getElem? hx) ⟨upd_same, ?_, upd_idem⟩)⟩
    have h1 : n < xs.length := hn
    rw [List.getElem?_eq_getElem h1] at hx
    rw [List.take_succ_eq_append_getElem h1, List.map_append, Option.some.inj hx]
    rfl
  · subst e1 e2
    rw [List.take_length]
    exact hq D hD
section
variable {P : Program} {w : World} {K : PySem.W.Frag} {mg : Str → Option Value} {base : Heap} {C f : Addr} {qual : Str} {st : Stmt} {fd : FuncData} {CX : CXT}
theorem iniL {x fn m : Str} {j : Nat} {p0 p1 p2 p3 p4 q1 q2 q4 a1 a2 a3 a4 a5 a6 b1 b2 b3 : Pos} {ar : Arg} (F : XcFn P K C f qual st fd) (hmg : mg "super" = none) (hml : mg "len" = none) (hmi : mg "list" = none)
    (hb : defBody st = [.Expr (.Call (.Attribute (.Call (.Name "super" p0) [] [] p1) "__init__" p2) [.JoinedStr [.FormattedValue (.Call (.Name "len" a1) [.Name x a2] [] a3) (-1) none a4, .Constant (.str m) j a5] a6] [] p3) p4,
      .Assign [.Attribute (.Name "self" q1) fn q2] (.Call (.Name "list" b1) [.Name x b2] [] b3) q4])
    (S : XScope ["self", x] ["self", x] (defScope st)) (hp : ((defArgs st).posonlyargs ++ (defArgs st).args).head? = some ar) (har : ar.arg = "self") (hno : PySem.W.findIn K (.ref C) fn = some none)
    (hd : (x == ("__debug__" : Str)) = false) (hcd : (x == ("__classdict__" : Str)) = false) (hgl : (defScope st).names.lookup ("len" : Str) = some .globalImplicit) (hgi : (defScope st).names.lookup ("list" : Str) = some .globalImplicit) (hm : m.length ≤ 1000)
    (hev : ∀ env : Env, ∃ pl, eval (.Call (.Attribute (.Call (.Name "super" p0) [] [] p1) "__init__" p2) [.JoinedStr [.FormattedValue (.Call (.Name "len" a1) [.Name x a2] [] a3) (-1) none a4, .Constant (.str m) j a5] a6] [] p3) env = (do
      let ov ← attributeBase (.Call (.Name "super" p0) [] [] p1) "__init__" env (eval (.Call (.Name "super" p0) [] [] p1) env)
      standAt p2.atName
      let (f, first) ← holding [ov] (getMethod ov "__init__" pl)
      callWith p3 f first (backTo p3 (starEach [.JoinedStr [.FormattedValue (.Call (.Name "len" a1) [.Name x a2] [] a3) (-1) none a4, .Constant (.str m) j a5] a6] env)) []) := by exact fun _ => ⟨_, rfl⟩)
    (hsw : ∀ env : Env, swapsWith (.Call (.Attribute (.Call (.Name "super" p0) [] [] p1) "__init__" p2) [.JoinedStr [.FormattedValue (.Call (.Name "len" a1) [.Name x a2] [] a3) (-1) none a4, .Constant (.str m) j a5] a6] [] p3) none p4.line env = pure false := by exact fun _ => rfl)
    (hsw2 : ∀ env : Env, swapsWith (.Call (.Name "list" b1) [.Name x b2] [] b3) (some (.Attribute (.Name "self" q1) fn q2)) q4.line env = pure false := by exact fun _ => rfl) : FnOk P w K mg base CX 1 f fd ["self", x] (spIL K C fn) := by
  obtain ⟨oc, od, kV, doc, pm, an, cda, ct, cc, osl, rfl, lk, hcd', T⟩ := F.ex
  refine xc_ok lk hcd' T hb S (fun vs H Q E ⟨a, v, ys, e, _⟩ => by rw [e]; rfl) hp (by rw [har]; rfl) hmg (fun A outer s H vs Q E hr ⟨a, p, ys, ev, ha, hS, hlen, q⟩ => ?_) (fun _ => rfl) (fun _ => rfl) hev hsw
  have v1 : ∀ {pos : Pos}, PE (xcCx CX P w K mg base ["self", x] qual (defScope st) f cda cc A outer s H E) (.Name x pos) (tVar 1) := pe_var (i := 1) rfl (.inl (S.par x (by simp))) hd hcd
  refine ⟨a, [.ref p], _, _, ev, ha, pa_cons (pe_joined (PJ.cons (pe_fmt (pe_callB cr_len hgl hml boot_len (pa_cons v1 pa_nil))) (PJ.cons pe_str PJ.nil))) pa_nil,
    pss_one (ps_ost (pe_var (i := 0) rfl (.inl (S.par "self" (by simp)))) (pe_callTy cr_list hgi hmi (by decide +kernel) (pa_cons v1 pa_nil)) (hsw2 _)), ?_⟩
  subst ev
  have l30 : ((ys.length : Nat) : Int).natAbs.log2 < 1920 := log_1920 (by omega)
  have lt : (toString ((ys.length : Nat) : Int)).length ≤ 1921 := int_text_length_le (k := 1920) (by decide) l30
  have ls : (Str.ofString (toString ((ys.length : Nat) : Int))).length ≤ 1921 := by rw [PySem.ofString_length]; exact lt
  refine ⟨.ref p, rfl, ys, hS, .inr ⟨_, rfl, l30, _, rfl, cat_le (n := 0) (k := 1921) (Nat.zero_le _) ls (by decide), m, rfl, cat_le (n := 1921) (k := 1000) ?_ hm (by decide), ?_⟩⟩
  · have : (Str.empty ++ Str.ofString (toString ((ys.length : Nat) : Int))).length = (Str.ofString (toString ((ys.length : Nat) : Int))).length := by
      rw [Str.length_append]
      exact Nat.zero_add _
    exact Nat.le_trans (Nat.le_of_eq this) ls
  · refine ⟨(show 1 ≤ 1000 by decide), ha, .ref p, rfl, ys, hS, fun l hl => ⟨.ref a, rfl, a, C, rfl, T.o, hno, .inl ⟨?_, fun dx hdx hne => ?_⟩⟩⟩
    · rw [upd_ne (ne_of_none ha hl)]
      exact ha
    · have hdl : dx ≠ l := fun z => by rw [z, upd_same] at hdx; cases hdx
      exact q l dx hl (fun z => by rw [z, ha] at hl; cases hl) (by rw [upd_ne hdl] at hdx; exact hdx) hne hdl
end
theorem mkVL {K : PySem.W.Frag} {C : Addr} {f : Str} {p : Addr} {ys : List V} {Q : VK} {H : Hp} (hS : SqL K H p ys ∨ SqT K H p ys) (hl : ys.length < 10 ^ 9) (q : ∀ a l H', Ext H H' → H a = none → H l = none → H' l = some (.lst ys) → ExAt H' a C [(f, .ref l)] → Q (.ref a) H') :
    ∀ a, H a = none → spIL K C f [.ref a, .ref p] (upd H a (exo a C none)) (fun v H2 => v = .non ∧ Q (.ref a) H2) E0 := fun a ha => by
  refine ⟨a, p, ys, rfl, upd_same, ?_, hl, fun l dx hl0 hla hd hda hdl => ⟨rfl, ?_⟩⟩
  · have k : Kp H (upd H a (exo a C none)) := Kp.new ha
    rcases hS with h | h
    · exact .inl (k.sqL h)
    · exact .inr (k.sqT h)
  · have hl1 : H l = none := by rw [upd_ne hla] at hl0; exact hl0
    have hd1 : H dx = none := by rw [upd_ne hda] at hd; exact hd
    refine q a l _ ((((Ext.new ha).mut hl1).mut hd1).mut ha) ha hl1 ?_ (.inr ⟨dx, upd_same, by rw [upd_ne hda, upd_same]⟩)
    rw [upd_ne hla, upd_ne hdl.symm, upd_same]
end Eb

namespace Eb
open PySem PySem.Spec PyProof.Rows L2
def top (i : Nat) : Stmt := PySem.Challenge.pw_edgejumps_k18_errors.main.body.getD i (.Pass ⟨0, 0, 0, 0⟩)
/-! ### the classes -/
def XN : List Str := ["BadCount", "BadKey", "BadMacro", "BadName", "BadSaying", "BadSheet", "BadTracks", "Barred", "HasHere", "NoColumn", "NoGuard", "NoMacro", "NoTrack", "NotRecording", "NothingToUndo", "OtherTracks", "Recording", "Taken", "TooLong"]
def FLD : List Str := ["line", "index", "count", "name", "column", "names"]
abbrev clsN : List Str := ["EdgeError", "BadCount", "BadKey", "BadMacro", "BadName", "BadSaying", "BadSheet", "BadTracks", "Barred", "HasHere", "NoColumn", "NoGuard", "NoMacro", "NoTrack", "NotRecording", "NothingToUndo", "OtherTracks", "Recording", "Taken", "TooLong"]
structure Kn (K : PySem.W.Frag) (C : Addr) (i : Nat) : Prop where
  ec : ExcC K C
  one : ∀ j x, XN[j]? = some x → PySem.W.kitOne K (.ref C) (.ref (He.ga K x)) = some (decide (j = i))
  ee : PySem.W.kitOne K (.ref C) (.ref (He.ga K "EdgeError")) = some true
  ve : PySem.W.kitOne K (.ref C) (.type "ValueError") = some true
  lt : i < 19
  fld : ∀ f, f ∈ FLD → isX K f C
def XFacts (K : PySem.W.Frag) : Prop := ∀ i x, XN[i]? = some x → Kn K (He.ga K x) i
/-- one of them, a value, true -/
def Trip (K : PySem.W.Frag) (H : Hp) (v : V) (t : Addr) : Prop := ∃ e C fs i, H t = some (.tup [.ref e, v, .bl true]) ∧ ExAt H e C fs ∧ Kn K C i
theorem Trip.ext {K : PySem.W.Frag} {H H' : Hp} {v : V} {t : Addr} (h : Trip K H v t) (e : Ext H H') : Trip K H' v t := by
  obtain ⟨a, C, fs, i, h1, h2, h3⟩ := h
  exact ⟨a, C, fs, i, e _ _ h1, h2.ext e, h3⟩
theorem PenAt.ext {H H' : Hp} {p c : Addr} {n : Nat} (h : PenAt H p c n) (e : Ext H H') : PenAt H' p c n := by
  obtain ⟨t, l, ns, h1, h2, h3, h4⟩ := h.ex
  exact ⟨t, l, ns, e _ _ h1, e _ _ h2, h3, h4⟩
theorem Ext.kp {H H' : Hp} (e : Ext H H') : Kp H H' := Kp.of e
theorem mk0 {C : Addr} {H : Hp} {R : Addr → Hp → Prop} (q : ∀ a H', Ext H H' → H a = none → ExAt H' a C [] → R a H') : 0 ≤ 1000 ∧ ∀ a, H a = none → spI0 C [.ref a] (upd H a (exo a C none)) (fun v H2 => v = .non ∧ R a H2) E0 :=
  ⟨by decide, fun a ha => ⟨a, rfl, upd_same, rfl, q a _ (.new ha) ha (.inl ⟨rfl, upd_same⟩)⟩⟩
theorem mk1 {C : Addr} {f : Str} {ok : V → Prop} {v : V} {H : Hp} {R : Addr → Hp → Prop} (hv : ok v) (q : ∀ a H', Ext H H' → H a = none → ExAt H' a C [(f, v)] → R a H') :
    1 ≤ 1000 ∧ ∀ a, H a = none → spI1 C f ok [.ref a, v] (upd H a (exo a C none)) (fun v H2 => v = .non ∧ R a H2) E0 :=
  ⟨by decide, fun a ha => ⟨a, v, rfl, upd_same, hv, fun dx hd hne => ⟨rfl, q a _ (.mut (.mut (.new ha) (by rw [upd_ne hne] at hd; exact hd)) ha) ha (.inr ⟨dx, upd_same, by rw [upd_ne hne, upd_same]⟩)⟩⟩⟩
/-- a triple is told -/
theorem trip {K : PySem.W.Frag} (X : XFacts K) (i : Nat) {x f : Str} {a : Addr} {v : V} {H : Hp} {R : Addr → V → Bool → Prop} (hx : XN[i]? = some x) (hf : f ∈ FLD) (he : ExAt H a (He.ga K x) [(f, v)])
    (q : ∀ t, H t = none → Ext H (upd H t (.tup [.ref a, v, .bl true])) → Trip K (upd H t (.tup [.ref a, v, .bl true])) v t → R t v true) : ∃ C fs v', ExAt H a C fs ∧ isX K f C ∧ fs.lookup f = some v' ∧ ∃ C fs b, ExAt H a C fs ∧ ExcC K C ∧ PySem.W.kitOne K (.ref C) (.ref (He.ga K x)) = some b ∧ 3 ≤ sizeLine ∧ ∀ t, H t = none → R t v' b :=
  ⟨_, _, v, he, (X i x hx).fld f hf, by simp [List.lookup], _, _, true, he, (X i x hx).ec, by rw [(X i x hx).one i x hx]; simp, (show 3 ≤ sizeLine by decide), fun t ht => q t ht (Ext.new ht) ⟨a, _, _, i, upd_same, he.ext (Ext.new ht), X i x hx⟩⟩
theorem tripT {K : PySem.W.Frag} (X : XFacts K) (i : Nat) {x f : Str} {a t : Addr} {v : V} {H : Hp} (hx : XN[i]? = some x) (he : ExAt H a (He.ga K x) [(f, v)]) (ht : H t = none) : Trip K (upd H t (.tup [.ref a, v, .bl true])) v t :=
  ⟨a, _, _, i, upd_same, he.ext (Ext.new ht), X i x hx⟩
section
variable {K : PySem.W.Frag} {vs : List V} {H : Hp} {Q : VK} {E : XK}
/-! ### classes -/
def sp_classes (K : PySem.W.Frag) : Sp := fun vs H Q _ => ∃ a C fs i, vs = [.ref a] ∧ ExAt H a C fs ∧ Kn K C i ∧ ∀ H', Ext H H' → Q (.int 1) H'
theorem len_classes (h : sp_classes K vs H Q E) : vs.length = 1 := by
  obtain ⟨_, _, _, _, rfl, _⟩ := h
  rfl
theorem sum_one : ∀ i < 19, (List.map (fun j => if decide (j = i) then (1 : Int) else 0) (List.range 19)).sum = 1 := by decide
def N_classes : List Str := ["_law_e", "_law_found", "_law_one"]
def t_classes (K : PySem.W.Frag) (E : XK) : TS :=
  (tSeq (tAsg (tLst (tCons (tCB (zIsX K) (tCons (yVar 0) (tCons (tC (.ref (He.ga K "BadCount"))) tNil))) (tCons (tCB (zIsX K) (tCons (yVar 0) (tCons (tC (.ref (He.ga K "BadKey"))) tNil))) (tCons (tCB (zIsX K) (tCons (yVar 0) (tCons (tC (.ref (He.ga K "BadMacro"))) tNil))) (tCons (tCB (zIsX K) (tCons (yVar 0) (tCons (tC (.ref (He.ga K "BadName"))) tNil))) tNil))))) (gName 1))
    (tSeq (tAsg (tOp zCatL (yVar 1) (tLst (tCons (tCB (zIsX K) (tCons (yVar 0) (tCons (tC (.ref (He.ga K "BadSaying"))) tNil))) (tCons (tCB (zIsX K) (tCons (yVar 0) (tCons (tC (.ref (He.ga K "BadSheet"))) tNil))) (tCons (tCB (zIsX K) (tCons (yVar 0) (tCons (tC (.ref (He.ga K "BadTracks"))) tNil))) (tCons (tCB (zIsX K) (tCons (yVar 0) (tCons (tC (.ref (He.ga K "Barred"))) tNil))) tNil)))))) (gName 1))
    (tSeq (tAsg (tOp zCatL (yVar 1) (tLst (tCons (tCB (zIsX K) (tCons (yVar 0) (tCons (tC (.ref (He.ga K "HasHere"))) tNil))) (tCons (tCB (zIsX K) (tCons (yVar 0) (tCons (tC (.ref (He.ga K "NoColumn"))) tNil))) (tCons (tCB (zIsX K) (tCons (yVar 0) (tCons (tC (.ref (He.ga K "NoGuard"))) tNil))) (tCons (tCB (zIsX K) (tCons (yVar 0) (tCons (tC (.ref (He.ga K "NoMacro"))) tNil))) tNil)))))) (gName 1))
    (tSeq (tAsg (tOp zCatL (yVar 1) (tLst (tCons (tCB (zIsX K) (tCons (yVar 0) (tCons (tC (.ref (He.ga K "NoTrack"))) tNil))) (tCons (tCB (zIsX K) (tCons (yVar 0) (tCons (tC (.ref (He.ga K "NotRecording"))) tNil))) (tCons (tCB (zIsX K) (tCons (yVar 0) (tCons (tC (.ref (He.ga K "NothingToUndo"))) tNil))) tNil))))) (gName 1))
    (tSeq (tAsg (tOp zCatL (yVar 1) (tLst (tCons (tCB (zIsX K) (tCons (yVar 0) (tCons (tC (.ref (He.ga K "OtherTracks"))) tNil))) (tCons (tCB (zIsX K) (tCons (yVar 0) (tCons (tC (.ref (He.ga K "Recording"))) tNil))) (tCons (tCB (zIsX K) (tCons (yVar 0) (tCons (tC (.ref (He.ga K "Taken"))) tNil))) (tCons (tCB (zIsX K) (tCons (yVar 0) (tCons (tC (.ref (He.ga K "TooLong"))) tNil))) tNil)))))) (gName 1))
    (tRet (tCB (zSum K) (tCons (yLc (jLst K (yVar 1)) (gName 2) tYes (tCB zInt (tCons (yVar 2) tNil)) [2]) tNil))))))))
theorem pure_classes (h : sp_classes K vs H Q E) : t_classes K E (dEnd Q) (start N_classes vs) H := by
  obtain ⟨a, C, fs, i, rfl, hx, kn, q⟩ := h
  have k := kn.one
  refine ⟨C, fs, _, hx, kn.ec, k 0 _ rfl, C, fs, _, hx, kn.ec, k 1 _ rfl, C, fs, _, hx, kn.ec, k 2 _ rfl, C, fs, _, hx, kn.ec, k 3 _ rfl, (show 4 ≤ sizeLine by decide), fun p1 n1 => ?_⟩
  have e1 : Ext H (upd H p1 (.lst [.bl (decide (0 = i)), .bl (decide (1 = i)), .bl (decide (2 = i)), .bl (decide (3 = i))])) := Ext.new n1
  have x1 := hx.ext e1
  refine ⟨C, fs, _, x1, kn.ec, k 4 _ rfl, C, fs, _, x1, kn.ec, k 5 _ rfl, C, fs, _, x1, kn.ec, k 6 _ rfl, C, fs, _, x1, kn.ec, k 7 _ rfl, (show 4 ≤ sizeLine by decide), fun r1 m1 => ⟨_, _, ((Ext.new m1) _ _ upd_same), upd_same, (show 8 ≤ sizeLine by decide), fun p2 n2 => ?_⟩⟩
  have e2 := ((Ext.new m1).trans (Ext.new n2 (o := .lst [.bl (decide (0 = i)), .bl (decide (1 = i)), .bl (decide (2 = i)), .bl (decide (3 = i)), .bl (decide (4 = i)), .bl (decide (5 = i)), .bl (decide (6 = i)), .bl (decide (7 = i))])))
  have x2 := x1.ext e2
  refine ⟨C, fs, _, x2, kn.ec, k 8 _ rfl, C, fs, _, x2, kn.ec, k 9 _ rfl, C, fs, _, x2, kn.ec, k 10 _ rfl, C, fs, _, x2, kn.ec, k 11 _ rfl, (show 4 ≤ sizeLine by decide), fun r2 m2 => ⟨_, _, ((Ext.new m2) _ _ upd_same), upd_same, (show 12 ≤ sizeLine by decide), fun p3 n3 => ?_⟩⟩
  have e3 := ((Ext.new m2).trans (Ext.new n3 (o := .lst [.bl (decide (0 = i)), .bl (decide (1 = i)), .bl (decide (2 = i)), .bl (decide (3 = i)), .bl (decide (4 = i)), .bl (decide (5 = i)), .bl (decide (6 = i)), .bl (decide (7 = i)), .bl (decide (8 = i)), .bl (decide (9 = i)), .bl (decide (10 = i)), .bl (decide (11 = i))])))
  have x3 := x2.ext e3
  refine ⟨C, fs, _, x3, kn.ec, k 12 _ rfl, C, fs, _, x3, kn.ec, k 13 _ rfl, C, fs, _, x3, kn.ec, k 14 _ rfl, (show 3 ≤ sizeLine by decide), fun r3 m3 => ⟨_, _, ((Ext.new m3) _ _ upd_same), upd_same, (show 15 ≤ sizeLine by decide), fun p4 n4 => ?_⟩⟩
  have e4 := ((Ext.new m3).trans (Ext.new n4 (o := .lst [.bl (decide (0 = i)), .bl (decide (1 = i)), .bl (decide (2 = i)), .bl (decide (3 = i)), .bl (decide (4 = i)), .bl (decide (5 = i)), .bl (decide (6 = i)), .bl (decide (7 = i)), .bl (decide (8 = i)), .bl (decide (9 = i)), .bl (decide (10 = i)), .bl (decide (11 = i)), .bl (decide (12 = i)), .bl (decide (13 = i)), .bl (decide (14 = i))])))
  have x4 := x3.ext e4
  refine ⟨C, fs, _, x4, kn.ec, k 15 _ rfl, C, fs, _, x4, kn.ec, k 16 _ rfl, C, fs, _, x4, kn.ec, k 17 _ rfl, C, fs, _, x4, kn.ec, k 18 _ rfl, (show 4 ≤ sizeLine by decide), fun r4 m4 => ⟨_, _, ((Ext.new m4) _ _ upd_same), upd_same, (show 19 ≤ sizeLine by decide), fun p5 n5 => ?_⟩⟩
  have e5 := ((Ext.new m4).trans (Ext.new n5 (o := .lst ((List.range 19).map fun j => V.bl (decide (j = i))))))
  dsimp only [tRet, tCB, tCons, gName]
  refine lc_list (xs := (List.range 19).map fun j => V.bl (decide (j = i))) (fun v => match v with | .bl b => .int (if b then 1 else 0) | _ => .non) (by intro R; rfl) (SqL.of upd_same) (show 19 < sizeLine by decide) (by intro x; rfl) (fun D H' x Q' _ _ hm hq => ?_) (fun D hD => ?_)
  · obtain ⟨j, _, rfl⟩ := List.mem_map.mp hm
    exact hq
  · refine ⟨(List.range 19).map (fun j => if decide (j = i) then (1 : Int) else 0), SqL.of (by rw [upd_same]; simp only [List.map_map]; rfl), ?_⟩
    rw [sum_one i kn.lt]
    exact q _ (e1.trans (e2.trans (e3.trans (e4.trans (e5.trans (Ext.new hD))))))
/-! ### is one -/
def sp_is_one (K : PySem.W.Frag) : Sp := fun vs H Q _ => ∃ a C fs i, vs = [.ref a, .bl true] ∧ ExAt H a C fs ∧ Kn K C i ∧ ∀ H', Ext H H' → Q (.bl true) H'
theorem len_is_one (h : sp_is_one K vs H Q E) : vs.length = 2 := by
  obtain ⟨_, _, _, _, rfl, _⟩ := h
  rfl
def N_is_one : List Str := ["_law_e", "_law_kind"]
def t_is_one (K : PySem.W.Frag) (E : XK) : TS :=
  (tRet (yAndV (yVar 1) (yAndV (tCB (zIsX K) (tCons (yVar 0) (tCons (tC (.ref (He.ga K "EdgeError"))) tNil))) (yAndV (tCB (zIsX K) (tCons (yVar 0) (tCons (tC (.ty "ValueError")) tNil))) (tOp zEq (yCall (sp_classes K) E0 (tCons (yVar 0) tNil)) (tC (.int 1)))))))
theorem pure_is_one (h : sp_is_one K vs H Q E) : t_is_one K E (dEnd Q) (start N_is_one vs) H := by
  obtain ⟨a, C, fs, i, rfl, hx, kn, q⟩ := h
  exact brT rfl ⟨C, fs, _, hx, kn.ec, kn.ee, brT rfl ⟨C, fs, _, hx, kn.ec, kn.ve, brT rfl ⟨a, C, fs, i, rfl, hx, kn, fun H' e => q H' e⟩⟩⟩
/-! ### numbered, named -/
def sp_numbered (K : PySem.W.Frag) : Sp := fun vs H Q _ => ∃ v, vs = [v] ∧ fmtOk v ∧ XFacts K ∧ ∀ (ts : List Addr) (r : Addr) (H' : Hp), Ext H H' → H' r = some (.lst (ts.map V.ref)) → (∀ t ∈ ts, Trip K H' v t) → ts.length < 100 → Q (.ref r) H'
theorem len_numbered (h : sp_numbered K vs H Q E) : vs.length = 1 := by
  obtain ⟨_, rfl, _⟩ := h
  rfl
def N_numbered : List Str := ["_law_number", "_law_one", "_law_two", "_law_three", "_law_four", "_law_five", "_law_six", "_law_seven", "_law_found"]
def t_numbered (K : PySem.W.Frag) (E : XK) : TS :=
  (tSeq (yPar3 1 2 3 (tCons (yMkV (He.ga K "BadSheet") (spI1 (He.ga K "BadSheet") "line" fmtOk) (tCons (yVar 0) tNil)) (tCons (yMkV (He.ga K "BadMacro") (spI1 (He.ga K "BadMacro") "line" fmtOk) (tCons (yVar 0) tNil)) (tCons (yMkV (He.ga K "BadTracks") (spI1 (He.ga K "BadTracks") "index" fmtOk) (tCons (yVar 0) tNil)) tNil))))
    (tSeq (yPar 4 5 (tCons (yMkV (He.ga K "BadSaying") (spI1 (He.ga K "BadSaying") "index" fmtOk) (tCons (yVar 0) tNil)) (tCons (yMkV (He.ga K "HasHere") (spI1 (He.ga K "HasHere") "index" fmtOk) (tCons (yVar 0) tNil)) tNil)))
    (tSeq (yPar 6 7 (tCons (yMkV (He.ga K "BadCount") (spI1 (He.ga K "BadCount") "count" anyOk) (tCons (yVar 0) tNil)) (tCons (yMkV (He.ga K "NoColumn") (spI1 (He.ga K "NoColumn") "column" anyOk) (tCons (yVar 0) tNil)) tNil)))
    (tSeq (tAsg (tLst (tCons (tTup (tCons (yVar 1) (tCons (yXfld K "line" (yVar 1)) (tCons (tCB (zIsX K) (tCons (yVar 1) (tCons (tC (.ref (He.ga K "BadSheet"))) tNil))) tNil)))) (tCons (tTup (tCons (yVar 2) (tCons (yXfld K "line" (yVar 2)) (tCons (tCB (zIsX K) (tCons (yVar 2) (tCons (tC (.ref (He.ga K "BadMacro"))) tNil))) tNil)))) tNil))) (gName 8))
    (tSeq (tAsg (tOp zCatL (yVar 8) (tLst (tCons (tTup (tCons (yVar 3) (tCons (yXfld K "index" (yVar 3)) (tCons (tCB (zIsX K) (tCons (yVar 3) (tCons (tC (.ref (He.ga K "BadTracks"))) tNil))) tNil)))) tNil))) (gName 8))
    (tSeq (tAsg (tOp zCatL (yVar 8) (tLst (tCons (tTup (tCons (yVar 4) (tCons (yXfld K "index" (yVar 4)) (tCons (tCB (zIsX K) (tCons (yVar 4) (tCons (tC (.ref (He.ga K "BadSaying"))) tNil))) tNil)))) tNil))) (gName 8))
    (tSeq (tAsg (tOp zCatL (yVar 8) (tLst (tCons (tTup (tCons (yVar 5) (tCons (yXfld K "index" (yVar 5)) (tCons (tCB (zIsX K) (tCons (yVar 5) (tCons (tC (.ref (He.ga K "HasHere"))) tNil))) tNil)))) (tCons (tTup (tCons (yVar 6) (tCons (yXfld K "count" (yVar 6)) (tCons (tCB (zIsX K) (tCons (yVar 6) (tCons (tC (.ref (He.ga K "BadCount"))) tNil))) tNil)))) tNil)))) (gName 8))
    (tRet (tOp zCatL (yVar 8) (tLst (tCons (tTup (tCons (yVar 7) (tCons (yXfld K "column" (yVar 7)) (tCons (tCB (zIsX K) (tCons (yVar 7) (tCons (tC (.ref (He.ga K "NoColumn"))) tNil))) tNil)))) tNil)))))))))))
theorem pure_numbered (h : sp_numbered K vs H Q E) : t_numbered K E (dEnd Q) (start N_numbered vs) H := by
  obtain ⟨v, rfl, hv, X, q⟩ := h
  refine mk1 hv fun a1 H1 e1 _ x1 => mk1 hv fun a2 H2 e2 _ x2 => mk1 hv fun a3 H3 e3 _ x3 => ?_
  refine mk1 hv fun a4 H4 e4 _ x4 => mk1 hv fun a5 H5 e5 _ x5 => ?_
  refine mk1 trivial fun a6 H6 e6 _ x6 => mk1 trivial fun a7 H7 e7 _ x7 => ?_
  have e17 := e2.trans (e3.trans (e4.trans (e5.trans (e6.trans e7))))
  have e27 := e3.trans (e4.trans (e5.trans (e6.trans e7)))
  have e37 := e4.trans (e5.trans (e6.trans e7))
  have e47 := e5.trans (e6.trans e7)
  have e57 := e6.trans e7
  refine trip X 5 rfl (by decide) (x1.ext e17) fun t1 _ f1 y1 => trip X 2 rfl (by decide) (x2.ext (e27.trans f1)) fun t2 _ f2 y2 => ⟨(show 2 ≤ sizeLine by decide), fun l1 n1 => ?_⟩
  have g1 := f1.trans (f2.trans (Ext.new n1 (o := .lst [.ref t1, .ref t2])))
  refine trip X 6 rfl (by decide) (x3.ext (e37.trans g1)) fun t3 _ f3 y3 => ⟨(show 1 ≤ sizeLine by decide), fun m1 o1 => ⟨_, _, (f3.trans (Ext.new o1)) _ _ upd_same, upd_same, (show 3 ≤ sizeLine by decide), fun l2 n2 => ?_⟩⟩
  have g2 := f3.trans ((Ext.new o1 (o := .lst [.ref t3])).trans (Ext.new n2 (o := .lst [.ref t1, .ref t2, .ref t3])))
  refine trip X 4 rfl (by decide) (x4.ext (e47.trans (g1.trans g2))) fun t4 _ f4 y4 => ⟨(show 1 ≤ sizeLine by decide), fun m2 o2 => ⟨_, _, (f4.trans (Ext.new o2)) _ _ upd_same, upd_same, (show 4 ≤ sizeLine by decide), fun l3 n3 => ?_⟩⟩
  have g3 := f4.trans ((Ext.new o2 (o := .lst [.ref t4])).trans (Ext.new n3 (o := .lst [.ref t1, .ref t2, .ref t3, .ref t4])))
  refine trip X 8 rfl (by decide) (x5.ext (e57.trans (g1.trans (g2.trans g3)))) fun t5 _ f5 y5 => trip X 0 rfl (by decide) (x6.ext (e7.trans (g1.trans (g2.trans (g3.trans f5))))) fun t6 _ f6 y6 => 
    ⟨(show 2 ≤ sizeLine by decide), fun m3 o3 => ⟨_, _, (f5.trans (f6.trans (Ext.new o3))) _ _ upd_same, upd_same, (show 6 ≤ sizeLine by decide), fun l4 n4 => ?_⟩⟩
  have g4 := f5.trans (f6.trans ((Ext.new o3 (o := .lst [.ref t5, .ref t6])).trans (Ext.new n4 (o := .lst [.ref t1, .ref t2, .ref t3, .ref t4, .ref t5, .ref t6]))))
  refine trip X 9 rfl (by decide) (x7.ext (g1.trans (g2.trans (g3.trans g4)))) fun t7 _ f7 y7 => ⟨(show 1 ≤ sizeLine by decide), fun m4 o4 => ⟨_, _, (f7.trans (Ext.new o4)) _ _ upd_same, upd_same, (show 7 ≤ sizeLine by decide), fun l5 n5 => ?_⟩⟩
  have g5 := f7.trans ((Ext.new o4 (o := .lst [.ref t7])).trans (Ext.new n5 (o := .lst [.ref t1, .ref t2, .ref t3, .ref t4, .ref t5, .ref t6, .ref t7])))
  refine q [t1, t2, t3, t4, t5, t6, t7] l5 _ (e1.trans (e17.trans (g1.trans (g2.trans (g3.trans (g4.trans g5)))))) upd_same (fun t ht => ?_) (by simp)
  simp only [List.mem_cons, List.not_mem_nil, or_false] at ht
  rcases ht with rfl | rfl | rfl | rfl | rfl | rfl | rfl
  · exact y1.ext ((f2.trans (Ext.new n1)).trans (g2.trans (g3.trans (g4.trans g5))))
  · exact y2.ext ((Ext.new n1).trans (g2.trans (g3.trans (g4.trans g5))))
  · exact y3.ext (((Ext.new o1).trans (Ext.new n2)).trans (g3.trans (g4.trans g5)))
  · exact y4.ext (((Ext.new o2).trans (Ext.new n3)).trans (g4.trans g5))
  · exact y5.ext ((f6.trans ((Ext.new o3).trans (Ext.new n4))).trans g5)
  · exact y6.ext (((Ext.new o3).trans (Ext.new n4)).trans g5)
  · exact y7.ext ((Ext.new o4).trans (Ext.new n5))
def sp_named (K : PySem.W.Frag) : Sp := fun vs H Q _ => ∃ v, vs = [v] ∧ fmtOk v ∧ XFacts K ∧ ∀ (ts : List Addr) (r : Addr) (H' : Hp), Ext H H' → H' r = some (.lst (ts.map V.ref)) → (∀ t ∈ ts, Trip K H' v t) → ts.length < 100 → Q (.ref r) H'
theorem len_named (h : sp_named K vs H Q E) : vs.length = 1 := by
  obtain ⟨_, rfl, _⟩ := h
  rfl
def N_named : List Str := ["_law_text", "_law_one", "_law_two", "_law_three", "_law_four", "_law_five", "_law_found"]
def t_named (K : PySem.W.Frag) (E : XK) : TS :=
  (tSeq (yPar3 1 2 3 (tCons (yMkV (He.ga K "NoTrack") (spI1 (He.ga K "NoTrack") "name" fmtOk) (tCons (yVar 0) tNil)) (tCons (yMkV (He.ga K "BadName") (spI1 (He.ga K "BadName") "name" fmtOk) (tCons (yVar 0) tNil)) (tCons (yMkV (He.ga K "NoMacro") (spI1 (He.ga K "NoMacro") "name" fmtOk) (tCons (yVar 0) tNil)) tNil))))
    (tSeq (yPar 4 5 (tCons (yMkV (He.ga K "Taken") (spI1 (He.ga K "Taken") "name" fmtOk) (tCons (yVar 0) tNil)) (tCons (yMkV (He.ga K "NoGuard") (spI1 (He.ga K "NoGuard") "name" fmtOk) (tCons (yVar 0) tNil)) tNil)))
    (tSeq (tAsg (tLst (tCons (tTup (tCons (yVar 1) (tCons (yXfld K "name" (yVar 1)) (tCons (tCB (zIsX K) (tCons (yVar 1) (tCons (tC (.ref (He.ga K "NoTrack"))) tNil))) tNil)))) (tCons (tTup (tCons (yVar 2) (tCons (yXfld K "name" (yVar 2)) (tCons (tCB (zIsX K) (tCons (yVar 2) (tCons (tC (.ref (He.ga K "BadName"))) tNil))) tNil)))) tNil))) (gName 6))
    (tSeq (tAsg (tOp zCatL (yVar 6) (tLst (tCons (tTup (tCons (yVar 3) (tCons (yXfld K "name" (yVar 3)) (tCons (tCB (zIsX K) (tCons (yVar 3) (tCons (tC (.ref (He.ga K "NoMacro"))) tNil))) tNil)))) (tCons (tTup (tCons (yVar 4) (tCons (yXfld K "name" (yVar 4)) (tCons (tCB (zIsX K) (tCons (yVar 4) (tCons (tC (.ref (He.ga K "Taken"))) tNil))) tNil)))) tNil)))) (gName 6))
    (tRet (tOp zCatL (yVar 6) (tLst (tCons (tTup (tCons (yVar 5) (tCons (yXfld K "name" (yVar 5)) (tCons (tCB (zIsX K) (tCons (yVar 5) (tCons (tC (.ref (He.ga K "NoGuard"))) tNil))) tNil)))) tNil))))))))
theorem pure_named (h : sp_named K vs H Q E) : t_named K E (dEnd Q) (start N_named vs) H := by
  obtain ⟨v, rfl, hv, X, q⟩ := h
  refine mk1 hv fun a1 H1 e1 _ x1 => mk1 hv fun a2 H2 e2 _ x2 => mk1 hv fun a3 H3 e3 _ x3 => ?_
  refine mk1 hv fun a4 H4 e4 _ x4 => mk1 hv fun a5 H5 e5 _ x5 => ?_
  have e17 := e2.trans (e3.trans (e4.trans e5))
  have e27 := e3.trans (e4.trans e5)
  have e37 := e4.trans e5
  refine trip X 12 rfl (by decide) (x1.ext e17) fun t1 _ f1 y1 => trip X 3 rfl (by decide) (x2.ext (e27.trans f1)) fun t2 _ f2 y2 => ⟨(show 2 ≤ sizeLine by decide), fun l1 n1 => ?_⟩
  have g1 := f1.trans (f2.trans (Ext.new n1 (o := .lst [.ref t1, .ref t2])))
  refine trip X 11 rfl (by decide) (x3.ext (e37.trans g1)) fun t3 _ f3 y3 => trip X 17 rfl (by decide) (x4.ext (e5.trans (g1.trans f3))) fun t4 _ f4 y4 => 
    ⟨(show 2 ≤ sizeLine by decide), fun m1 o1 => ⟨_, _, (f3.trans (f4.trans (Ext.new o1))) _ _ upd_same, upd_same, (show 4 ≤ sizeLine by decide), fun l2 n2 => ?_⟩⟩
  have g2 := f3.trans (f4.trans ((Ext.new o1 (o := .lst [.ref t3, .ref t4])).trans (Ext.new n2 (o := .lst [.ref t1, .ref t2, .ref t3, .ref t4]))))
  refine trip X 10 rfl (by decide) (x5.ext (g1.trans g2)) fun t5 _ f5 y5 => ⟨(show 1 ≤ sizeLine by decide), fun m2 o2 => ⟨_, _, (f5.trans (Ext.new o2)) _ _ upd_same, upd_same, (show 5 ≤ sizeLine by decide), fun l3 n3 => ?_⟩⟩
  have g3 := f5.trans ((Ext.new o2 (o := .lst [.ref t5])).trans (Ext.new n3 (o := .lst [.ref t1, .ref t2, .ref t3, .ref t4, .ref t5])))
  refine q [t1, t2, t3, t4, t5] l3 _ (e1.trans (e17.trans (g1.trans (g2.trans g3)))) upd_same (fun t ht => ?_) (by simp)
  simp only [List.mem_cons, List.not_mem_nil, or_false] at ht
  rcases ht with rfl | rfl | rfl | rfl | rfl
  · exact y1.ext ((f2.trans (Ext.new n1)).trans (g2.trans g3))
  · exact y2.ext ((Ext.new n1).trans (g2.trans g3))
  · exact y3.ext ((f4.trans ((Ext.new o1).trans (Ext.new n2))).trans g3)
  · exact y4.ext (((Ext.new o1).trans (Ext.new n2)).trans g3)
  · exact y5.ext ((Ext.new o2).trans (Ext.new n3))
/-! ### the pen -/
def sp_begun_pen (K : PySem.W.Frag) : Sp := fun vs H Q _ => ∃ (s : Addr) (ns : List Int), vs = [.ref s] ∧ SqL K H s (ns.map V.int) ∧ ∀ p c H', Ext H H' → PenAt H' p c 0 → Q (.ref p) H'
theorem len_begun_pen (h : sp_begun_pen K vs H Q E) : vs.length = 1 := by
  obtain ⟨_, _, rfl, _⟩ := h
  rfl
theorem merge_pen {c : Addr} : mergeK [] (penKvs c 0 0) = penKvs c 0 0 := by simp [mergeK, putK, penKvs, kc1, kc2, kc3]
def N_begun_pen : List Str := ["_law_script"]
def t_begun_pen (K : PySem.W.Frag) (E : XK) : TS :=
  (tRet (tDisp (((tC (.str "cells")), (tCB (zList K) (tCons (tSl (zSlL K) (yVar 0) tNoPart (tPart (tC (.int 63)))) tNil))) :: (((tC (.str "turn")), (tC (.int 0))) :: (((tC (.str "left")), (tC (.int 0))) :: [])))))
theorem pure_begun_pen (h : sp_begun_pen K vs H Q E) : t_begun_pen K E (dEnd Q) (start N_begun_pen vs) H := by
  obtain ⟨s, ns, rfl, hs, q⟩ := h
  intro p hp
  have e1 : Ext H (upd H p (.dK [])) := Ext.new hp
  refine ⟨_, rfl, _, e1.kp.sqL hs, fun r hr => ⟨_, .inl (SqL.of upd_same), fun l hl => ?_⟩⟩
  have ec : cutV (ns.map V.int) none (some 63) = (ns.take 63).map V.int := by
    unfold cutV
    rw [HT.sIx_none, show (63 : Int) = ((63 : Nat) : Int) from rfl, HT.sIx_nat, List.drop_zero, Nat.sub_zero, List.map_take, List.length_map]
    by_cases hm : 63 ≤ ns.length
    · rw [Nat.min_eq_left hm]
    · rw [Nat.min_eq_right (by omega), List.take_of_length_le (by simp), List.take_of_length_le (by simp; omega)]
  have np : p ≠ r := fun z => by rw [← z, upd_same] at hr; cases hr
  have np2 : p ≠ l := fun z => by rw [← z, upd_ne np, upd_same] at hl; cases hl
  refine ⟨by rw [upd_ne np2, upd_ne np, upd_same], penKvs l 0 0, rfl, (show 3 ≤ 15 by decide), ?_⟩
  rw [merge_pen]
  refine q p l _ (((e1.trans (Ext.new hr)).trans (Ext.new hl)).mut hp) ⟨0, 0, ns.take 63, upd_same, ?_, by decide, by decide⟩
  rw [upd_ne np2.symm, upd_same, ec]
end
section
variable {P : Program} {w : World} {K : PySem.W.Frag} {mg : Str → Option Value} {base : Heap}
abbrev s_begun_pen : Stmt := top 22
theorem sc_begun_pen : FnScope N_begun_pen ["_law_script"] (defScope s_begun_pen) := ⟨rfl, rfl, rfl, by decide +kernel, rfl, by decide +kernel, by decide +kernel⟩
theorem ok_begun_pen {f : Addr} {fd : FuncData} (B : Blt mg)   (F : FunD K "_law_begun_pen" "_law_begun_pen" (defArgs s_begun_pen) (defBody s_begun_pen) (defScope s_begun_pen) [] [] f fd) : FnOk P w K mg base (L2.CX P w) 1 f fd ["_law_script"] (sp_begun_pen K) := by
  refine F.ok sc_begun_pen (fun vs H Q E h => len_begun_pen h) (fun cdv A outer s H vs Q E hr h => ⟨t_begun_pen K E, ?_, pure_begun_pen h⟩)
  exact (pss_one (ps_ret (pe_disp (pps_cons pe_str (pe_callTy cr_list rfl B.list (by decide +kernel) (pa_cons (pe_slice sl_zL (yv 0) po_none (po_some pe_int)) pa_nil)) (pps_cons pe_str pe_int (pps_cons pe_str pe_int pps_nil))) (by rfl) (by rfl) (by simp) (by decide))))
abbrev s_draw : Stmt := top 23
theorem sc_draw : FnScope N_draw ["_law_pen", "_law_span"] (defScope s_draw) := ⟨rfl, rfl, rfl, by decide +kernel, rfl, by decide +kernel, by decide +kernel⟩
theorem ok_draw {f : Addr} {fd : FuncData} (B : Blt mg)   (F : FunD K "_law_draw" "_law_draw" (defArgs s_draw) (defBody s_draw) (defScope s_draw) [] [] f fd) : FnOk P w K mg base (L2.CX P w) 1 f fd ["_law_pen", "_law_span"] (sp_draw K) := by
  refine F.ok sc_draw (fun vs H Q E h => len_draw h) (fun cdv A outer s H vs Q E hr h => ⟨t_draw K E, ?_, pure_draw h⟩)
  have hu := hu_of hr
  exact (pss_cons (ys_if (yt_cmp op_zGt (ye_dget hu (yv 0) pe_str (fun _ _ => rfl)) pe_int (by rfl)) (pss_cons (ps_set (i := 2) sc_draw.nd rfl (by first | exact Or.inl rfl | exact Or.inr rfl) (pe_op op_zMod (pe_callTy cr_int rfl B.int boot_int (pa_cons (ye_dget hu (yv 0) pe_str (fun _ _ => rfl)) pa_nil)) (yv 1)))
    (pss_cons (ys_dput hu (yv 0) pe_str (pe_op op_zDiv (ye_dget hu (yv 0) pe_str (fun _ _ => rfl)) (yv 1)) rfl)
    (pss_one (ps_ret (yv 2))))) pss_nil)
    (pss_cons (ps_set (i := 3) sc_draw.nd rfl (by first | exact Or.inl rfl | exact Or.inr rfl) (ye_dget hu (yv 0) pe_str (fun _ _ => rfl)))
    (pss_cons (ys_dput hu (yv 0) pe_str (pe_op op_zAdd (yv 3) pe_int) rfl)
    (pss_cons (ps_set (i := 4) sc_draw.nd rfl (by first | exact Or.inl rfl | exact Or.inr rfl) (pe_op op_zAdd (pe_op op_zMul pe_int (yv 3)) pe_int))
    (ys_cut (ys_if (yt_cmp (op_zNeD hr.units) (ye_dget hu (yv 0) pe_str (fun _ _ => rfl)) (pe_lst pa_nil) (by rfl)) (pss_one (ps_set (i := 4) sc_draw.nd rfl (by first | exact Or.inl rfl | exact Or.inr rfl) (pe_ix ix_zIxL (ye_dget hu (yv 0) pe_str (fun _ _ => rfl)) (pe_op op_zMod (pe_callTy cr_int rfl B.int boot_int (pa_cons (yv 3) pa_nil)) (pe_callB cr_len rfl B.len boot_len (pa_cons (ye_dget hu (yv 0) pe_str (fun _ _ => rfl)) pa_nil))) (fun _ _ => rfl)))) pss_nil)
    (pss_cons (ys_if (PW.pt (yt_and (yt_cmp op_zLt (yv 3) (pe_callB cr_len rfl B.len boot_len (pa_cons (ye_dget hu (yv 0) pe_str (fun _ _ => rfl)) pa_nil)) (by rfl)) (pw_and1 (yt_cmp op_zGe (pe_callB cr_abs rfl B.abs (by decide +kernel) (pa_cons (yv 4) pa_nil)) (pe_op op_zPow pe_int pe_int) (by rfl))))) (pss_cons (ys_dput hu (yv 0) pe_str (pe_op op_zDiv (pe_op op_zSub (pe_callB cr_abs rfl B.abs (by decide +kernel) (pa_cons (yv 4) pa_nil)) (pe_op op_zPow pe_int pe_int)) (yv 1)) rfl)
    (pss_one (ps_ret (pe_op op_zMod (pe_callTy cr_int rfl B.int boot_int (pa_cons (pe_op op_zSub (pe_callB cr_abs rfl B.abs (by decide +kernel) (pa_cons (yv 4) pa_nil)) (pe_op op_zPow pe_int pe_int)) pa_nil)) (yv 1))))) pss_nil)
    (pss_cons (ps_set (i := 5) sc_draw.nd rfl (by first | exact Or.inl rfl | exact Or.inr rfl) (pe_op op_zMul (pe_op op_zMod (pe_callTy cr_int rfl B.int boot_int (pa_cons (yv 4) pa_nil)) pe_int) pe_int))
    (pss_cons (ps_set (i := 5) sc_draw.nd rfl (by first | exact Or.inl rfl | exact Or.inr rfl) (pe_op op_zMod (pe_callTy cr_int rfl B.int boot_int (pa_cons (pe_op op_zAdd (pe_op op_zAdd (yv 5) (pe_op op_zMul (yv 3) (pe_op op_zAdd (pe_op op_zMul (yv 3) pe_int) pe_int))) pe_int) pa_nil)) pe_int))
    (pss_cons (ps_set (i := 5) sc_draw.nd rfl (by first | exact Or.inl rfl | exact Or.inr rfl) (pe_op op_zMod (pe_callTy cr_int rfl B.int boot_int (pa_cons (pe_op op_zMul (yv 5) (pe_op op_zAdd (yv 5) pe_int)) pa_nil)) pe_int))
    (pss_cons (ps_set (i := 5) sc_draw.nd rfl (by first | exact Or.inl rfl | exact Or.inr rfl) (pe_op op_zMod (pe_callTy cr_int rfl B.int boot_int (pa_cons (pe_op op_zAdd (pe_op op_zAdd (pe_op op_zMul (yv 5) (yv 5)) (pe_op op_zMul pe_int (yv 5))) (pe_op op_zMul pe_int (yv 3))) pa_nil)) pe_int))
    (pss_one (ps_ret (pe_op op_zMod (pe_callTy cr_int rfl B.int boot_int (pa_cons (pe_op op_zDiv (pe_op op_zMod (pe_callTy cr_int rfl B.int boot_int (pa_cons (pe_op op_zMul (yv 5) (pe_op op_zAdd (yv 5) pe_int)) pa_nil)) pe_int) pe_int) pa_nil)) (yv 1))))))))))))))
abbrev s_shuffled : Stmt := top 24
theorem sc_shuffled : FnScope N_shuffled ["_law_pen", "_law_items"] (defScope s_shuffled) := ⟨rfl, rfl, rfl, by decide +kernel, rfl, by decide +kernel, by decide +kernel⟩
theorem ok_shuffled {f : Addr} {fd : FuncData} (B : Blt mg) (c_draw : Cal P w K mg base "_law_draw" 1 ["_law_pen", "_law_span"] (sp_draw K))  (F : FunD K "_law_shuffled" "_law_shuffled" (defArgs s_shuffled) (defBody s_shuffled) (defScope s_shuffled) [] [] f fd) : FnOk P w K mg base (L2.CX P w) 2 f fd ["_law_pen", "_law_items"] (sp_shuffled K) := by
  refine F.ok sc_shuffled (fun vs H Q E h => len_shuffled h) (fun cdv A outer s H vs Q E hr h => ⟨t_shuffled K E, ?_, pure_shuffled h⟩)
  have po := passes_of (X := cxOf (L2.CX P w) P w K mg base N_shuffled "_law_shuffled" (defScope s_shuffled) f cdv A outer s H E) rfl
  exact (pss_cons (ys_par (ps_par (i := 2) (j := 3) (by rfl) sc_shuffled.nd rfl rfl (by decide) rfl rfl (PA.up (pa_cons (pe_callTy cr_list rfl B.list (by decide +kernel) (pa_cons (yv 1) pa_nil)) (pa_cons (pe_lst pa_nil) pa_nil))) (by rfl)))
    (pss_cons (ys_while po (yt_cmp (op_zNeD hr.units) (yv 2) (pe_lst pa_nil) (by rfl)) (pss_one (ps_expr (pe_bm PySem.F.plainAttrs_list PySem.F.slot_list_append PySem.F.type_list_append mt_zApp (yv 3) (pa_cons (pe_bm PySem.F.plainAttrs_list PySem.F.slot_list_pop PySem.F.type_list_pop mt_zPopAt (yv 2) (pa_cons (ye_call c_draw (hr.mono (by decide)) rfl (pa_cons (yv 0) (pa_cons (pe_callB cr_len rfl B.len boot_len (pa_cons (yv 2) pa_nil)) pa_nil))) pa_nil)) pa_nil)))))
    (pss_one (ps_ret (yv 3)))))
abbrev s_new_names : Stmt := top 25
theorem sc_new_names : FnScope N_new_names ["_law_pen", "_law_many"] (defScope s_new_names) := ⟨rfl, rfl, rfl, by decide +kernel, rfl, by decide +kernel, by decide +kernel⟩
theorem ok_new_names {f : Addr} {fd : FuncData} (B : Blt mg) (c_shuffled : Cal P w K mg base "_law_shuffled" 2 ["_law_pen", "_law_items"] (sp_shuffled K))  (F : FunD K "_law_new_names" "_law_new_names" (defArgs s_new_names) (defBody s_new_names) (defScope s_new_names) [] [] f fd) : FnOk P w K mg base (L2.CX P w) 3 f fd ["_law_pen", "_law_many"] (sp_new_names K) := by
  refine F.ok sc_new_names (fun vs H Q E h => len_new_names h) (fun cdv A outer s H vs Q E hr h => ⟨t_new_names K E, ?_, pure_new_names h⟩)
  exact (pss_cons (ps_set (i := 2) sc_new_names.nd rfl (by first | exact Or.inl rfl | exact Or.inr rfl) (pe_lst (pa_cons pe_str (pa_cons pe_str (pa_cons pe_str (pa_cons pe_str (pa_cons pe_str (pa_cons pe_str (pa_cons pe_str (pa_cons pe_str (pa_cons pe_str (pa_cons pe_str (pa_cons pe_str (pa_cons pe_str pa_nil))))))))))))))
    (pss_one (ps_ret (pe_slice sl_zL (ye_call c_shuffled (hr.mono (by decide)) rfl (pa_cons (yv 0) (pa_cons (yv 2) pa_nil))) po_none (po_some (yv 1))))))
abbrev s_classes : Stmt := top 26
theorem sc_classes : FnScope N_classes ["_law_e"] (defScope s_classes) := ⟨rfl, rfl, rfl, by decide +kernel, rfl, by decide +kernel, by decide +kernel⟩
theorem ok_classes {f : Addr} {fd : FuncData} (B : Blt mg)   (GC : ∀ x ∈ clsN, mg x = some (.ref (He.ga K x))) (F : FunD K "_law_classes" "_law_classes" (defArgs s_classes) (defBody s_classes) (defScope s_classes) [] [] f fd) : FnOk P w K mg base (L2.CX P w) 1 f fd ["_law_e"] (sp_classes K) := by
  refine F.ok sc_classes (fun vs H Q E h => len_classes h) (fun cdv A outer s H vs Q E hr h => ⟨t_classes K E, ?_, pure_classes h⟩)
  exact (pss_cons (ps_set (i := 1) sc_classes.nd rfl (by first | exact Or.inl rfl | exact Or.inr rfl) (pe_lst (pa_cons (pe_callB cr_isX rfl B.isinstance (by decide +kernel) (pa_cons (yv 0) (pa_cons (pe_glob rfl (GC "BadCount" (by decide)) rfl) pa_nil))) (pa_cons (pe_callB cr_isX rfl B.isinstance (by decide +kernel) (pa_cons (yv 0) (pa_cons (pe_glob rfl (GC "BadKey" (by decide)) rfl) pa_nil))) (pa_cons (pe_callB cr_isX rfl B.isinstance (by decide +kernel) (pa_cons (yv 0) (pa_cons (pe_glob rfl (GC "BadMacro" (by decide)) rfl) pa_nil))) (pa_cons (pe_callB cr_isX rfl B.isinstance (by decide +kernel) (pa_cons (yv 0) (pa_cons (pe_glob rfl (GC "BadName" (by decide)) rfl) pa_nil))) pa_nil))))))
    (pss_cons (ps_set (i := 1) sc_classes.nd rfl (by first | exact Or.inl rfl | exact Or.inr rfl) (pe_op op_zCatL (yv 1) (pe_lst (pa_cons (pe_callB cr_isX rfl B.isinstance (by decide +kernel) (pa_cons (yv 0) (pa_cons (pe_glob rfl (GC "BadSaying" (by decide)) rfl) pa_nil))) (pa_cons (pe_callB cr_isX rfl B.isinstance (by decide +kernel) (pa_cons (yv 0) (pa_cons (pe_glob rfl (GC "BadSheet" (by decide)) rfl) pa_nil))) (pa_cons (pe_callB cr_isX rfl B.isinstance (by decide +kernel) (pa_cons (yv 0) (pa_cons (pe_glob rfl (GC "BadTracks" (by decide)) rfl) pa_nil))) (pa_cons (pe_callB cr_isX rfl B.isinstance (by decide +kernel) (pa_cons (yv 0) (pa_cons (pe_glob rfl (GC "Barred" (by decide)) rfl) pa_nil))) pa_nil)))))))
    (pss_cons (ps_set (i := 1) sc_classes.nd rfl (by first | exact Or.inl rfl | exact Or.inr rfl) (pe_op op_zCatL (yv 1) (pe_lst (pa_cons (pe_callB cr_isX rfl B.isinstance (by decide +kernel) (pa_cons (yv 0) (pa_cons (pe_glob rfl (GC "HasHere" (by decide)) rfl) pa_nil))) (pa_cons (pe_callB cr_isX rfl B.isinstance (by decide +kernel) (pa_cons (yv 0) (pa_cons (pe_glob rfl (GC "NoColumn" (by decide)) rfl) pa_nil))) (pa_cons (pe_callB cr_isX rfl B.isinstance (by decide +kernel) (pa_cons (yv 0) (pa_cons (pe_glob rfl (GC "NoGuard" (by decide)) rfl) pa_nil))) (pa_cons (pe_callB cr_isX rfl B.isinstance (by decide +kernel) (pa_cons (yv 0) (pa_cons (pe_glob rfl (GC "NoMacro" (by decide)) rfl) pa_nil))) pa_nil)))))))
    (pss_cons (ps_set (i := 1) sc_classes.nd rfl (by first | exact Or.inl rfl | exact Or.inr rfl) (pe_op op_zCatL (yv 1) (pe_lst (pa_cons (pe_callB cr_isX rfl B.isinstance (by decide +kernel) (pa_cons (yv 0) (pa_cons (pe_glob rfl (GC "NoTrack" (by decide)) rfl) pa_nil))) (pa_cons (pe_callB cr_isX rfl B.isinstance (by decide +kernel) (pa_cons (yv 0) (pa_cons (pe_glob rfl (GC "NotRecording" (by decide)) rfl) pa_nil))) (pa_cons (pe_callB cr_isX rfl B.isinstance (by decide +kernel) (pa_cons (yv 0) (pa_cons (pe_glob rfl (GC "NothingToUndo" (by decide)) rfl) pa_nil))) pa_nil))))))
    (pss_cons (ps_set (i := 1) sc_classes.nd rfl (by first | exact Or.inl rfl | exact Or.inr rfl) (pe_op op_zCatL (yv 1) (pe_lst (pa_cons (pe_callB cr_isX rfl B.isinstance (by decide +kernel) (pa_cons (yv 0) (pa_cons (pe_glob rfl (GC "OtherTracks" (by decide)) rfl) pa_nil))) (pa_cons (pe_callB cr_isX rfl B.isinstance (by decide +kernel) (pa_cons (yv 0) (pa_cons (pe_glob rfl (GC "Recording" (by decide)) rfl) pa_nil))) (pa_cons (pe_callB cr_isX rfl B.isinstance (by decide +kernel) (pa_cons (yv 0) (pa_cons (pe_glob rfl (GC "Taken" (by decide)) rfl) pa_nil))) (pa_cons (pe_callB cr_isX rfl B.isinstance (by decide +kernel) (pa_cons (yv 0) (pa_cons (pe_glob rfl (GC "TooLong" (by decide)) rfl) pa_nil))) pa_nil)))))))
    (pss_one (ps_ret (pe_callB cr_sum rfl B.sum (by decide +kernel) (pa_cons (ye_lc (own := [("_law_one", 2)]) (g := (gName 2)) (tt := tYes) rfl sc_classes.nd (j_lst (yv 1)) (blkOk_by (N := N_classes) (sc := defScope s_classes) (by decide +kernel)) (fun _ _ _ _ _ => (pg_name (i := 2) sc_classes.nd rfl (by first | exact Or.inl rfl | exact Or.inr rfl))) (fun _ _ _ _ _ => pts_nil) (fun _ _ _ _ _ => (pe_callTy cr_int rfl B.int boot_int (pa_cons (yv 2) pa_nil)))) pa_nil)))))))))
abbrev s_is_one : Stmt := top 27
theorem sc_is_one : FnScope N_is_one ["_law_e", "_law_kind"] (defScope s_is_one) := ⟨rfl, rfl, rfl, by decide +kernel, rfl, by decide +kernel, by decide +kernel⟩
theorem ok_is_one {f : Addr} {fd : FuncData} (B : Blt mg) (c_classes : Cal P w K mg base "_law_classes" 1 ["_law_e"] (sp_classes K))  (GC : ∀ x ∈ clsN, mg x = some (.ref (He.ga K x))) (F : FunD K "_law_is_one" "_law_is_one" (defArgs s_is_one) (defBody s_is_one) (defScope s_is_one) [] [] f fd) : FnOk P w K mg base (L2.CX P w) 2 f fd ["_law_e", "_law_kind"] (sp_is_one K) := by
  refine F.ok sc_is_one (fun vs H Q E h => len_is_one h) (fun cdv A outer s H vs Q E hr h => ⟨t_is_one K E, ?_, pure_is_one h⟩)
  exact (pss_one (ps_ret (ye_and (yv 1) (ye_and (pe_callB cr_isX rfl B.isinstance (by decide +kernel) (pa_cons (yv 0) (pa_cons (pe_glob rfl (GC "EdgeError" (by decide)) rfl) pa_nil))) (ye_and (pe_callB cr_isX rfl B.isinstance (by decide +kernel) (pa_cons (yv 0) (pa_cons (pe_bltn rfl B.ve PyProof.Rows.Boot.«ValueError» rfl) pa_nil))) (pe_one (pe_cmpR op_zEq (ye_call c_classes (hr.mono (by decide)) rfl (pa_cons (yv 0) pa_nil)) pe_int (by rfl))))))))
abbrev s_numbered : Stmt := top 28
theorem sc_numbered : FnScope N_numbered ["_law_number"] (defScope s_numbered) := ⟨rfl, rfl, rfl, by decide +kernel, rfl, by decide +kernel, by decide +kernel⟩
theorem ok_numbered {f : Addr} {fd : FuncData} (B : Blt mg)  (m_BadTracks : Mk P w K mg base "BadTracks" (He.ga K "BadTracks") ["self", "index"] (spI1 (He.ga K "BadTracks") "index" fmtOk)) (m_BadMacro : Mk P w K mg base "BadMacro" (He.ga K "BadMacro") ["self", "line"] (spI1 (He.ga K "BadMacro") "line" fmtOk)) (m_BadSheet : Mk P w K mg base "BadSheet" (He.ga K "BadSheet") ["self", "line"] (spI1 (He.ga K "BadSheet") "line" fmtOk)) (m_HasHere : Mk P w K mg base "HasHere" (He.ga K "HasHere") ["self", "index"] (spI1 (He.ga K "HasHere") "index" fmtOk)) (m_BadSaying : Mk P w K mg base "BadSaying" (He.ga K "BadSaying") ["self", "index"] (spI1 (He.ga K "BadSaying") "index" fmtOk)) (m_NoColumn : Mk P w K mg base "NoColumn" (He.ga K "NoColumn") ["self", "column"] (spI1 (He.ga K "NoColumn") "column" anyOk)) (m_BadCount : Mk P w K mg base "BadCount" (He.ga K "BadCount") ["self", "count"] (spI1 (He.ga K "BadCount") "count" anyOk))  (GC : ∀ x ∈ clsN, mg x = some (.ref (He.ga K x))) (F : FunD K "_law_numbered" "_law_numbered" (defArgs s_numbered) (defBody s_numbered) (defScope s_numbered) [] [] f fd) : FnOk P w K mg base (L2.CX P w) 3 f fd ["_law_number"] (sp_numbered K) := by
  refine F.ok sc_numbered (fun vs H Q E h => len_numbered h) (fun cdv A outer s H vs Q E hr h => ⟨t_numbered K E, ?_, pure_numbered h⟩)
  exact (pss_cons (ys_par3 (ps_par3 (i := 1) (j := 2) (l := 3) (by rfl) sc_numbered.nd rfl rfl rfl (by decide) (by decide) (by decide) rfl rfl rfl (PA.up (pa_cons (ye_mkV m_BadSheet (hr.mono (by decide)) rfl (pa_cons (yv 0) pa_nil)) (pa_cons (ye_mkV m_BadMacro (hr.mono (by decide)) rfl (pa_cons (yv 0) pa_nil)) (pa_cons (ye_mkV m_BadTracks (hr.mono (by decide)) rfl (pa_cons (yv 0) pa_nil)) pa_nil)))) (by rfl)))
    (pss_cons (ys_par (ps_par (i := 4) (j := 5) (by rfl) sc_numbered.nd rfl rfl (by decide) rfl rfl (PA.up (pa_cons (ye_mkV m_BadSaying (hr.mono (by decide)) rfl (pa_cons (yv 0) pa_nil)) (pa_cons (ye_mkV m_HasHere (hr.mono (by decide)) rfl (pa_cons (yv 0) pa_nil)) pa_nil))) (by rfl)))
    (pss_cons (ys_par (ps_par (i := 6) (j := 7) (by rfl) sc_numbered.nd rfl rfl (by decide) rfl rfl (PA.up (pa_cons (ye_mkV m_BadCount (hr.mono (by decide)) rfl (pa_cons (yv 0) pa_nil)) (pa_cons (ye_mkV m_NoColumn (hr.mono (by decide)) rfl (pa_cons (yv 0) pa_nil)) pa_nil))) (by rfl)))
    (pss_cons (ps_set (i := 8) sc_numbered.nd rfl (by first | exact Or.inl rfl | exact Or.inr rfl) (pe_lst (pa_cons (pe_tup (pa_cons (yv 1) (pa_cons (ye_xfld (yv 1)) (pa_cons (pe_callB cr_isX rfl B.isinstance (by decide +kernel) (pa_cons (yv 1) (pa_cons (pe_glob rfl (GC "BadSheet" (by decide)) rfl) pa_nil))) pa_nil)))) (pa_cons (pe_tup (pa_cons (yv 2) (pa_cons (ye_xfld (yv 2)) (pa_cons (pe_callB cr_isX rfl B.isinstance (by decide +kernel) (pa_cons (yv 2) (pa_cons (pe_glob rfl (GC "BadMacro" (by decide)) rfl) pa_nil))) pa_nil)))) pa_nil))))
    (pss_cons (ps_set (i := 8) sc_numbered.nd rfl (by first | exact Or.inl rfl | exact Or.inr rfl) (pe_op op_zCatL (yv 8) (pe_lst (pa_cons (pe_tup (pa_cons (yv 3) (pa_cons (ye_xfld (yv 3)) (pa_cons (pe_callB cr_isX rfl B.isinstance (by decide +kernel) (pa_cons (yv 3) (pa_cons (pe_glob rfl (GC "BadTracks" (by decide)) rfl) pa_nil))) pa_nil)))) pa_nil))))
    (pss_cons (ps_set (i := 8) sc_numbered.nd rfl (by first | exact Or.inl rfl | exact Or.inr rfl) (pe_op op_zCatL (yv 8) (pe_lst (pa_cons (pe_tup (pa_cons (yv 4) (pa_cons (ye_xfld (yv 4)) (pa_cons (pe_callB cr_isX rfl B.isinstance (by decide +kernel) (pa_cons (yv 4) (pa_cons (pe_glob rfl (GC "BadSaying" (by decide)) rfl) pa_nil))) pa_nil)))) pa_nil))))
    (pss_cons (ps_set (i := 8) sc_numbered.nd rfl (by first | exact Or.inl rfl | exact Or.inr rfl) (pe_op op_zCatL (yv 8) (pe_lst (pa_cons (pe_tup (pa_cons (yv 5) (pa_cons (ye_xfld (yv 5)) (pa_cons (pe_callB cr_isX rfl B.isinstance (by decide +kernel) (pa_cons (yv 5) (pa_cons (pe_glob rfl (GC "HasHere" (by decide)) rfl) pa_nil))) pa_nil)))) (pa_cons (pe_tup (pa_cons (yv 6) (pa_cons (ye_xfld (yv 6)) (pa_cons (pe_callB cr_isX rfl B.isinstance (by decide +kernel) (pa_cons (yv 6) (pa_cons (pe_glob rfl (GC "BadCount" (by decide)) rfl) pa_nil))) pa_nil)))) pa_nil)))))
    (pss_one (ps_ret (pe_op op_zCatL (yv 8) (pe_lst (pa_cons (pe_tup (pa_cons (yv 7) (pa_cons (ye_xfld (yv 7)) (pa_cons (pe_callB cr_isX rfl B.isinstance (by decide +kernel) (pa_cons (yv 7) (pa_cons (pe_glob rfl (GC "NoColumn" (by decide)) rfl) pa_nil))) pa_nil)))) pa_nil))))))))))))
abbrev s_named : Stmt := top 29
theorem sc_named : FnScope N_named ["_law_text"] (defScope s_named) := ⟨rfl, rfl, rfl, by decide +kernel, rfl, by decide +kernel, by decide +kernel⟩
theorem ok_named {f : Addr} {fd : FuncData} (B : Blt mg)  (m_NoMacro : Mk P w K mg base "NoMacro" (He.ga K "NoMacro") ["self", "name"] (spI1 (He.ga K "NoMacro") "name" fmtOk)) (m_BadName : Mk P w K mg base "BadName" (He.ga K "BadName") ["self", "name"] (spI1 (He.ga K "BadName") "name" fmtOk)) (m_NoTrack : Mk P w K mg base "NoTrack" (He.ga K "NoTrack") ["self", "name"] (spI1 (He.ga K "NoTrack") "name" fmtOk)) (m_NoGuard : Mk P w K mg base "NoGuard" (He.ga K "NoGuard") ["self", "name"] (spI1 (He.ga K "NoGuard") "name" fmtOk)) (m_Taken : Mk P w K mg base "Taken" (He.ga K "Taken") ["self", "name"] (spI1 (He.ga K "Taken") "name" fmtOk))  (GC : ∀ x ∈ clsN, mg x = some (.ref (He.ga K x))) (F : FunD K "_law_named" "_law_named" (defArgs s_named) (defBody s_named) (defScope s_named) [] [] f fd) : FnOk P w K mg base (L2.CX P w) 3 f fd ["_law_text"] (sp_named K) := by
  refine F.ok sc_named (fun vs H Q E h => len_named h) (fun cdv A outer s H vs Q E hr h => ⟨t_named K E, ?_, pure_named h⟩)
  exact (pss_cons (ys_par3 (ps_par3 (i := 1) (j := 2) (l := 3) (by rfl) sc_named.nd rfl rfl rfl (by decide) (by decide) (by decide) rfl rfl rfl (PA.up (pa_cons (ye_mkV m_NoTrack (hr.mono (by decide)) rfl (pa_cons (yv 0) pa_nil)) (pa_cons (ye_mkV m_BadName (hr.mono (by decide)) rfl (pa_cons (yv 0) pa_nil)) (pa_cons (ye_mkV m_NoMacro (hr.mono (by decide)) rfl (pa_cons (yv 0) pa_nil)) pa_nil)))) (by rfl)))
    (pss_cons (ys_par (ps_par (i := 4) (j := 5) (by rfl) sc_named.nd rfl rfl (by decide) rfl rfl (PA.up (pa_cons (ye_mkV m_Taken (hr.mono (by decide)) rfl (pa_cons (yv 0) pa_nil)) (pa_cons (ye_mkV m_NoGuard (hr.mono (by decide)) rfl (pa_cons (yv 0) pa_nil)) pa_nil))) (by rfl)))
    (pss_cons (ps_set (i := 6) sc_named.nd rfl (by first | exact Or.inl rfl | exact Or.inr rfl) (pe_lst (pa_cons (pe_tup (pa_cons (yv 1) (pa_cons (ye_xfld (yv 1)) (pa_cons (pe_callB cr_isX rfl B.isinstance (by decide +kernel) (pa_cons (yv 1) (pa_cons (pe_glob rfl (GC "NoTrack" (by decide)) rfl) pa_nil))) pa_nil)))) (pa_cons (pe_tup (pa_cons (yv 2) (pa_cons (ye_xfld (yv 2)) (pa_cons (pe_callB cr_isX rfl B.isinstance (by decide +kernel) (pa_cons (yv 2) (pa_cons (pe_glob rfl (GC "BadName" (by decide)) rfl) pa_nil))) pa_nil)))) pa_nil))))
    (pss_cons (ps_set (i := 6) sc_named.nd rfl (by first | exact Or.inl rfl | exact Or.inr rfl) (pe_op op_zCatL (yv 6) (pe_lst (pa_cons (pe_tup (pa_cons (yv 3) (pa_cons (ye_xfld (yv 3)) (pa_cons (pe_callB cr_isX rfl B.isinstance (by decide +kernel) (pa_cons (yv 3) (pa_cons (pe_glob rfl (GC "NoMacro" (by decide)) rfl) pa_nil))) pa_nil)))) (pa_cons (pe_tup (pa_cons (yv 4) (pa_cons (ye_xfld (yv 4)) (pa_cons (pe_callB cr_isX rfl B.isinstance (by decide +kernel) (pa_cons (yv 4) (pa_cons (pe_glob rfl (GC "Taken" (by decide)) rfl) pa_nil))) pa_nil)))) pa_nil)))))
    (pss_one (ps_ret (pe_op op_zCatL (yv 6) (pe_lst (pa_cons (pe_tup (pa_cons (yv 5) (pa_cons (ye_xfld (yv 5)) (pa_cons (pe_callB cr_isX rfl B.isinstance (by decide +kernel) (pa_cons (yv 5) (pa_cons (pe_glob rfl (GC "NoGuard" (by decide)) rfl) pa_nil))) pa_nil)))) pa_nil)))))))))
end
end Eb

namespace Eb
open PySem PySem.Spec PyProof.Rows L2
theorem mkL {K : PySem.W.Frag} {C : Addr} {f : Str} {p : Addr} {ys : List V} {H : Hp} {R : Addr → Hp → Prop} (hS : SqL K H p ys) (hl : ys.length < 10 ^ 9) (q : ∀ a l H', Ext H H' → H' l = some (.lst ys) → ExAt H' a C [(f, .ref l)] → R a H') :
    1 ≤ 1000 ∧ ∀ a, H a = none → spIL K C f [.ref a, .ref p] (upd H a (exo a C none)) (fun v H2 => v = .non ∧ R a H2) E0 := by
  refine ⟨by decide, fun a ha => ⟨a, p, ys, rfl, upd_same, .inl ((Kp.new ha).sqL hS), hl, fun l dx hl0 hla hd hda hdl => ⟨rfl, ?_⟩⟩⟩
  have hl1 : H l = none := by rw [upd_ne hla] at hl0; exact hl0
  have hd1 : H dx = none := by rw [upd_ne hda] at hd; exact hd
  refine q a l _ ((((Ext.new ha).mut hl1).mut hd1).mut ha) ?_ (.inr ⟨dx, upd_same, by rw [upd_ne hda, upd_same]⟩)
  rw [upd_ne hla, upd_ne hdl.symm, upd_same]
theorem nms_flat {ys : List Str} : (ys.map V.str).all flatV = true := by simp [flatV]
theorem nms_ok {ys : List Str} (h : ∀ y ∈ ys, y ∈ NAMES) : (ys.map V.str).all okV = true := List.all_eq_true.mpr fun z hz => by
  obtain ⟨y, hy, rfl⟩ := List.mem_map.mp hz
  exact List.all_eq_true.mp names_ok _ (List.mem_map_of_mem (h y hy))
theorem nm_short : ∀ y ∈ NAMES, y.length ≤ 12 ∧ (reprText y).length ≤ 1000 := by decide +kernel
theorem pow60 : CPow 10 60 := by unfold CPow; decide
theorem log60 {i : Int} (h : i.natAbs < 2 ^ 1000) : i.natAbs.log2 < 1920 := by
  by_cases h0 : i.natAbs = 0
  · rw [h0]
    decide
  · exact Nat.lt_trans ((Nat.log2_lt h0).mpr h) (by decide)
section
variable {K : PySem.W.Frag} {vs : List V} {H : Hp} {Q : VK} {E : XK}
def sp_others_right (K : PySem.W.Frag) : Sp := fun vs H Q _ => ∃ p c n, vs = [.ref p] ∧ PenAt H p c n ∧ n + 20 < 1152921504606846976 ∧ XFacts K ∧ ∀ H', Kp H H' → PenAt H' p c (n + 13) → Q (.bl true) H'
theorem len_others_right (h : sp_others_right K vs H Q E) : vs.length = 1 := by
  obtain ⟨_, _, _, rfl, _⟩ := h
  rfl
def N_others_right : List Str := ["_law_pen", "_law_names", "_law_one", "_law_two", "_law_three", "_law_four", "_law_five", "_law_six", "_law_seven", "_law_good"]
def t_others_right (K : PySem.W.Frag) (E : XK) : TS :=
  (tSeq (tAsg (yCall (sp_new_names K) E0 (tCons (yVar 0) (tCons (yCall (sp_draw K) E0 (tCons (yVar 0) (tCons (tC (.int 6)) tNil))) tNil))) (gName 1))
    (tSeq (tAsg (tTup (tCons (yMkV (He.ga K "Barred") (spIL K (He.ga K "Barred") "names") (tCons (tCB (zList K) (tCons (yVar 1) tNil)) tNil)) (tCons (yMkV (He.ga K "BadKey") (spI0 (He.ga K "BadKey")) tNil) (tCons (yMkV (He.ga K "OtherTracks") (spI0 (He.ga K "OtherTracks")) tNil) (tCons (yMkV (He.ga K "Recording") (spI0 (He.ga K "Recording")) tNil) tNil))))) (gTup K 4 (gCons (gName 2) (gCons (gName 3) (gCons (gName 4) (gCons (gName 5) gNil))))))
    (tSeq (yPar3 6 7 8 (tCons (yMkV (He.ga K "NotRecording") (spI0 (He.ga K "NotRecording")) tNil) (tCons (yMkV (He.ga K "TooLong") (spI0 (He.ga K "TooLong")) tNil) (tCons (yMkV (He.ga K "NothingToUndo") (spI0 (He.ga K "NothingToUndo")) tNil) tNil))))
    (tSeq (tAsg (yAndV (tOp (zEqD K) (yXfld K "names" (yVar 2)) (yVar 1)) (yCall (sp_is_one K) E0 (tCons (yVar 2) (tCons (tCB (zIsX K) (tCons (yVar 2) (tCons (tC (.ref (He.ga K "Barred"))) tNil))) tNil)))) (gName 9))
    (tSeq (tAsg (yAndV (yVar 9) (yAndV (yCall (sp_is_one K) E0 (tCons (yVar 3) (tCons (tCB (zIsX K) (tCons (yVar 3) (tCons (tC (.ref (He.ga K "BadKey"))) tNil))) tNil))) (yCall (sp_is_one K) E0 (tCons (yVar 4) (tCons (tCB (zIsX K) (tCons (yVar 4) (tCons (tC (.ref (He.ga K "OtherTracks"))) tNil))) tNil))))) (gName 9))
    (tSeq (tAsg (yAndV (yVar 9) (yAndV (yCall (sp_is_one K) E0 (tCons (yVar 5) (tCons (tCB (zIsX K) (tCons (yVar 5) (tCons (tC (.ref (He.ga K "Recording"))) tNil))) tNil))) (yCall (sp_is_one K) E0 (tCons (yVar 7) (tCons (tCB (zIsX K) (tCons (yVar 7) (tCons (tC (.ref (He.ga K "TooLong"))) tNil))) tNil))))) (gName 9))
    (tRet (yAndV (yVar 9) (yAndV (yCall (sp_is_one K) E0 (tCons (yVar 6) (tCons (tCB (zIsX K) (tCons (yVar 6) (tCons (tC (.ref (He.ga K "NotRecording"))) tNil))) tNil))) (yCall (sp_is_one K) E0 (tCons (yVar 8) (tCons (tCB (zIsX K) (tCons (yVar 8) (tCons (tC (.ref (He.ga K "NothingToUndo"))) tNil))) tNil))))))))))))
theorem pure_others_right (h : sp_others_right K vs H Q E) : t_others_right K E (dEnd Q) (start N_others_right vs) H := by
  obtain ⟨p, c, n, rfl, hP, hn, X, q⟩ := h
  refine ⟨p, c, n, 6, rfl, hP, by omega, by decide, by decide, fun r H1 h0 hlt k1 P1 => ?_⟩
  obtain ⟨m, rfl⟩ := Int.eq_ofNat_of_zero_le h0
  refine ⟨p, c, n + 1, m, rfl, P1, by omega, fun ys l H2 nd hm hlen k2 _ h2 P2 => ?_⟩
  refine ⟨_, .inl (SqL.of h2), fun b hb => ?_⟩
  have hs : ys.length ≤ 12 := by rw [hlen]; exact Nat.min_le_right ..
  refine mkL (SqL.of upd_same) (by rw [List.length_map]; omega) fun a1 l1 H3 e3 hl1 x1 => mk0 fun a2 H4 e4 _ x2 => mk0 fun a3 H5 e5 _ x3 => mk0 fun a4 H6 e6 _ x4 => ⟨(show 4 ≤ sizeLine by decide), fun t ht => ?_⟩
  refine ⟨t, _, rfl, SqT.of upd_same, rfl, _, _, rfl, _, _, rfl, _, _, rfl, _, _, rfl, rfl, ?_⟩
  have e7 : Ext H6 (upd H6 t (.tup [.ref a1, .ref a2, .ref a3, .ref a4])) := Ext.new ht
  refine mk0 fun a5 H8 e8 _ x5 => mk0 fun a6 H9 e9 _ x6 => mk0 fun a7 H10 e10 _ x7 => ?_
  have f7 := e10
  have f6 := e9.trans e10
  have f5 := e8.trans f6
  have f4 := e7.trans f5
  have f3 := e6.trans f4
  have f2 := e5.trans f3
  have f1 := e4.trans f2
  have y1 := x1.ext f1
  have y2 := x2.ext f2
  have y3 := x3.ext f3
  have y4 := x4.ext f4
  have y5 := x5.ext f6
  have y6 := x6.ext f7
  have g0 : Ext H2 H10 := (Ext.new hb).trans (e3.trans f1)
  have hf := nms_flat (ys := ys)
  have ho := nms_ok hm
  refine ⟨_, _, _, y1, (X 7 _ rfl).fld "names" (by decide), rfl, .list ((ys.map V.str).map dataV), .list ((ys.map V.str).map dataV), .lst (SqL.of (f1 _ _ hl1)) (dpAll_flat hf), .lst (SqL.of (g0 _ _ h2)) (dpAll_flat hf), shaped_flatL ho, shaped_flatL ho, brT ?_ ?_⟩
  · exact PySem.SeqAt.eqv_refl _ (lay_flat ho)
  refine ⟨_, _, _, y1, (X 7 _ rfl).ec, (X 7 _ rfl).one 7 _ rfl, a1, _, _, 7, rfl, y1, X 7 _ rfl, fun G1 j1 => ?_⟩
  refine brT rfl ⟨_, _, _, y2.ext j1, (X 1 _ rfl).ec, (X 1 _ rfl).one 1 _ rfl, a2, _, _, 1, rfl, y2.ext j1, X 1 _ rfl, fun G2 j2 => ?_⟩
  have k2' := j1.trans j2
  refine brT rfl ⟨_, _, _, y3.ext k2', (X 15 _ rfl).ec, (X 15 _ rfl).one 15 _ rfl, a3, _, _, 15, rfl, y3.ext k2', X 15 _ rfl, fun G3 j3 => ?_⟩
  have k3' := k2'.trans j3
  refine brT rfl ⟨_, _, _, y4.ext k3', (X 16 _ rfl).ec, (X 16 _ rfl).one 16 _ rfl, a4, _, _, 16, rfl, y4.ext k3', X 16 _ rfl, fun G4 j4 => ?_⟩
  have k4' := k3'.trans j4
  refine brT rfl ⟨_, _, _, y6.ext k4', (X 18 _ rfl).ec, (X 18 _ rfl).one 18 _ rfl, a6, _, _, 18, rfl, y6.ext k4', X 18 _ rfl, fun G5 j5 => ?_⟩
  have k5' := k4'.trans j5
  refine brT rfl ⟨_, _, _, y5.ext k5', (X 13 _ rfl).ec, (X 13 _ rfl).one 13 _ rfl, a5, _, _, 13, rfl, y5.ext k5', X 13 _ rfl, fun G6 j6 => ?_⟩
  have k6' := k5'.trans j6
  refine brT rfl ⟨_, _, _, x7.ext k6', (X 14 _ rfl).ec, (X 14 _ rfl).one 14 _ rfl, a7, _, _, 14, rfl, x7.ext k6', X 14 _ rfl, fun G7 j7 => ?_⟩
  have g7 := g0.trans (k6'.trans j7)
  exact q G7 ((k1.trans k2).trans g7.kp) (P2.ext g7)
def sp_law (K : PySem.W.Frag) : Sp := fun vs H Q _ => ∃ (s : Addr) (ns : List Int), vs = [.ref s] ∧ SqL K H s (ns.map V.int) ∧ XFacts K ∧ ∀ H', Q (.bl true) H'
theorem len_law (h : sp_law K vs H Q E) : vs.length = 1 := by
  obtain ⟨_, _, rfl, _⟩ := h
  rfl
def N_law : List Str := ["_law_script", "_law_pen", "_law_turn", "_law_number", "_law_text", "_law_e", "_law_field", "_law_kind"]
def t_law (K : PySem.W.Frag) (E : XK) : TS :=
  (tSeq (tAsg (yCall (sp_begun_pen K) E0 (tCons (yVar 0) tNil)) (gName 1))
    (tSeq (yFor (jRng (tC (.int 3))) (gName 2) (tSeq (yPar 3 4 (tCons (tOp zSub (yCall (sp_draw K) E0 (tCons (yVar 1) (tCons (tOp zPow (tC (.int 10)) (tC (.int 60))) tNil))) (yVar 2)) (tCons (tOp (zIxL K) (yCall (sp_new_names K) E0 (tCons (yVar 1) (tCons (tC (.int 1)) tNil))) (tC (.int 0))) tNil)))
    (tSeq (yFor (jLst K (yCall (sp_numbered K) E0 (tCons (yVar 3) tNil))) (gTup K 3 (gCons (gName 5) (gCons (gName 6) (gCons (gName 7) gNil)))) (yIf (yOr (yTst (tOp zNe (tCB zRepr (tCons (yVar 6) tNil)) (tCB zRepr (tCons (yVar 3) tNil)))) (yNot (yTst (yCall (sp_is_one K) E0 (tCons (yVar 5) (tCons (yVar 7) tNil)))))) (tRet (tC (.bl false))) tNext))
    (tSeq (yFor (jLst K (yCall (sp_named K) E0 (tCons (yVar 4) tNil))) (gTup K 3 (gCons (gName 5) (gCons (gName 6) (gCons (gName 7) gNil)))) (yIf (yOr (yTst (tOp zNe (tCB zRepr (tCons (yVar 6) tNil)) (tCB zRepr (tCons (yVar 4) tNil)))) (yNot (yTst (yCall (sp_is_one K) E0 (tCons (yVar 5) (tCons (yVar 7) tNil)))))) (tRet (tC (.bl false))) tNext))
    (yIf (yNot (yTst (yCall (sp_others_right K) E0 (tCons (yVar 1) tNil)))) (tRet (tC (.bl false))) tNext)))))
    (tRet (tC (.bl true)))))
theorem pure_law (h : sp_law K vs H Q E) : t_law K E (dEnd Q) (start N_law vs) H := by
  obtain ⟨s, ns, rfl, hs, X, q⟩ := h
  refine ⟨s, ns, rfl, hs, fun p c H1 e1 P1 => ⟨by decide, by decide, fun j σ H => ∃ x2 x3 x4 x5 x6 x7, σ = [some (.ref s), some (.ref p), x2, x3, x4, x5, x6, x7] ∧ PenAt H p c (26 * j), ⟨_, _, _, _, _, _, rfl, P1⟩, fun _ _ _ _ _ => trivial, ?_, fun σ H _ => q H⟩⟩
  rintro j x σ Ha Hb hj ⟨x2, x3, x4, x5, x6, x7, rfl, Pj⟩ ⟨rfl, rfl⟩
  have hj : j < 3 := hj
  refine ⟨pow60, p, c, _, _, rfl, Pj, by omega, by decide, by decide +kernel, fun r H2 hr0 hr1 k2 P2 => ?_⟩
  refine ⟨p, c, _, 1, rfl, P2, by omega, fun ys l H3 nd hm hlen k3 _ h3 P3 => ?_⟩
  obtain ⟨y, rfl⟩ : ∃ y, ys = [y] := List.length_eq_one_iff.mp (by rw [hlen]; rfl)
  have hy := nm_short y (hm y (by simp))
  refine ⟨_, .str y, .inl (SqL.of h3), rfl, ?_⟩
  have hr1 : r < 10 ^ 60 := hr1
  have hnum : (r - (0 + (j : Nat) : Int)).natAbs < 2 ^ 1000 := by omega
  have hlog := log60 hnum
  generalize (r - (0 + (j : Nat) : Int)) = num at hlog ⊢
  refine ⟨_, rfl, hlog, X, fun ts rr H4 e4 h4 ht hl => ?_⟩
  refine ⟨_, SqL.of h4, fun i σ G => ∃ x5 x6 x7, σ = [some (.ref s), some (.ref p), some (.int (0 + (j : Nat))), some (.int num), some (.str y), x5, x6, x7] ∧ Ext H4 G, ⟨_, _, _, rfl, Ext.refl _⟩, fun i σ G _ ⟨_, _, _, _, e⟩ => e.kp.sqL (SqL.of h4), ?_, ?_⟩
  · rintro i x σ G G2 hi ⟨x5, x6, x7, rfl, eG⟩ ⟨rfl, hx⟩
    rw [List.getElem?_map] at hx
    obtain ⟨t, hti, rfl⟩ := Option.map_eq_some_iff.mp hx
    obtain ⟨e, C, fs, i', h1, h2, kn⟩ := (ht t (List.mem_of_getElem? hti)).ext eG
    refine ⟨t, _, rfl, SqT.of h1, rfl, _, _, rfl, _, _, rfl, _, _, rfl, rfl, ?_⟩
    refine ⟨hlog, hlog, brF (by simp) ⟨e, C, fs, i', rfl, h2, kn, fun G' eG' => brF rfl ⟨_, _, _, rfl, eG.trans eG'⟩⟩⟩
  · rintro σ G ⟨x5, x6, x7, rfl, eG⟩
    refine ⟨_, rfl, (show y.length ≤ 1000000 by omega), X, fun ts2 r2 H5 e5 h5 ht2 hl2 => ?_⟩
    refine ⟨_, SqL.of h5, fun i σ G => ∃ x5 x6 x7, σ = [some (.ref s), some (.ref p), some (.int (0 + (j : Nat))), some (.int num), some (.str y), x5, x6, x7] ∧ Ext H5 G, ⟨_, _, _, rfl, Ext.refl _⟩, fun i σ G _ ⟨_, _, _, _, e⟩ => e.kp.sqL (SqL.of h5), ?_, ?_⟩
    · rintro i x σ G G2 hi ⟨x5, x6, x7, rfl, eG⟩ ⟨rfl, hx⟩
      rw [List.getElem?_map] at hx
      obtain ⟨t, hti, rfl⟩ := Option.map_eq_some_iff.mp hx
      obtain ⟨e, C, fs, i', h1, h2, kn⟩ := (ht2 t (List.mem_of_getElem? hti)).ext eG
      have hz : (reprText y).length ≤ sizeLine := Nat.le_trans hy.2 (by decide)
      refine ⟨t, _, rfl, SqT.of h1, rfl, _, _, rfl, _, _, rfl, _, _, rfl, rfl, ?_⟩
      refine ⟨hz, hz, brF (by simp) ⟨e, C, fs, i', rfl, h2, kn, fun G' eG' => brF rfl ⟨_, _, _, rfl, eG.trans eG'⟩⟩⟩
    · rintro σ G2 ⟨x5, x6, x7, rfl, eG2⟩
      have P4 := (P3.ext e4).ext (eG.trans (e5.trans eG2))
      exact ⟨p, c, _, rfl, P4, by omega, X, fun H' _ P' => brF rfl ⟨_, _, _, _, _, _, rfl, P'.mono (by omega)⟩⟩
end
section
variable {P : Program} {w : World} {K : PySem.W.Frag} {mg : Str → Option Value} {base : Heap}
abbrev s_others_right : Stmt := top 30
theorem sc_others_right : FnScope N_others_right ["_law_pen"] (defScope s_others_right) := ⟨rfl, rfl, rfl, by decide +kernel, rfl, by decide +kernel, by decide +kernel⟩
theorem ok_others_right {f : Addr} {fd : FuncData} (B : Blt mg) (c_draw : Cal P w K mg base "_law_draw" 1 ["_law_pen", "_law_span"] (sp_draw K)) (c_new_names : Cal P w K mg base "_law_new_names" 3 ["_law_pen", "_law_many"] (sp_new_names K)) (c_is_one : Cal P w K mg base "_law_is_one" 2 ["_law_e", "_law_kind"] (sp_is_one K)) (m_Recording : Mk P w K mg base "Recording" (He.ga K "Recording") ["self"] (spI0 (He.ga K "Recording"))) (m_OtherTracks : Mk P w K mg base "OtherTracks" (He.ga K "OtherTracks") ["self"] (spI0 (He.ga K "OtherTracks"))) (m_BadKey : Mk P w K mg base "BadKey" (He.ga K "BadKey") ["self"] (spI0 (He.ga K "BadKey"))) (m_Barred : Mk P w K mg base "Barred" (He.ga K "Barred") ["self", "names"] (spIL K (He.ga K "Barred") "names")) (m_NothingToUndo : Mk P w K mg base "NothingToUndo" (He.ga K "NothingToUndo") ["self"] (spI0 (He.ga K "NothingToUndo"))) (m_TooLong : Mk P w K mg base "TooLong" (He.ga K "TooLong") ["self"] (spI0 (He.ga K "TooLong"))) (m_NotRecording : Mk P w K mg base "NotRecording" (He.ga K "NotRecording") ["self"] (spI0 (He.ga K "NotRecording")))  (GC : ∀ x ∈ clsN, mg x = some (.ref (He.ga K x))) (F : FunD K "_law_others_right" "_law_others_right" (defArgs s_others_right) (defBody s_others_right) (defScope s_others_right) [] [] f fd) : FnOk P w K mg base (L2.CX P w) 4 f fd ["_law_pen"] (sp_others_right K) := by
  refine F.ok sc_others_right (fun vs H Q E h => len_others_right h) (fun cdv A outer s H vs Q E hr h => ⟨t_others_right K E, ?_, pure_others_right h⟩)
  exact (pss_cons (ps_set (i := 1) sc_others_right.nd rfl (by first | exact Or.inl rfl | exact Or.inr rfl) (ye_call c_new_names (hr.mono (by decide)) rfl (pa_cons (yv 0) (pa_cons (ye_call c_draw (hr.mono (by decide)) rfl (pa_cons (yv 0) (pa_cons pe_int pa_nil))) pa_nil))))
    (pss_cons (ps_asg (pe_tup (pa_cons (ye_mkV m_Barred (hr.mono (by decide)) rfl (pa_cons (pe_callTy cr_list rfl B.list (by decide +kernel) (pa_cons (yv 1) pa_nil)) pa_nil)) (pa_cons (ye_mkV0 m_BadKey (hr.mono (by decide)) rfl) (pa_cons (ye_mkV0 m_OtherTracks (hr.mono (by decide)) rfl) (pa_cons (ye_mkV0 m_Recording (hr.mono (by decide)) rfl) pa_nil))))) (pg_tup rfl (pgs_cons (pg_name (i := 2) sc_others_right.nd rfl (by first | exact Or.inl rfl | exact Or.inr rfl)) (pgs_cons (pg_name (i := 3) sc_others_right.nd rfl (by first | exact Or.inl rfl | exact Or.inr rfl)) (pgs_cons (pg_name (i := 4) sc_others_right.nd rfl (by first | exact Or.inl rfl | exact Or.inr rfl)) (pgs_cons (pg_name (i := 5) sc_others_right.nd rfl (by first | exact Or.inl rfl | exact Or.inr rfl)) pgs_nil))))))
    (pss_cons (ys_par3 (ps_par3 (i := 6) (j := 7) (l := 8) (by rfl) sc_others_right.nd rfl rfl rfl (by decide) (by decide) (by decide) rfl rfl rfl (PA.up (pa_cons (ye_mkV0 m_NotRecording (hr.mono (by decide)) rfl) (pa_cons (ye_mkV0 m_TooLong (hr.mono (by decide)) rfl) (pa_cons (ye_mkV0 m_NothingToUndo (hr.mono (by decide)) rfl) pa_nil)))) (by rfl)))
    (pss_cons (ps_set (i := 9) sc_others_right.nd rfl (by first | exact Or.inl rfl | exact Or.inr rfl) (ye_and (pe_cmpR (op_zEqD hr.units) (ye_xfld (yv 2)) (yv 1) (by rfl)) (pe_one (ye_call c_is_one (hr.mono (by decide)) rfl (pa_cons (yv 2) (pa_cons (pe_callB cr_isX rfl B.isinstance (by decide +kernel) (pa_cons (yv 2) (pa_cons (pe_glob rfl (GC "Barred" (by decide)) rfl) pa_nil))) pa_nil))))))
    (pss_cons (ps_set (i := 9) sc_others_right.nd rfl (by first | exact Or.inl rfl | exact Or.inr rfl) (ye_and (yv 9) (ye_and (ye_call c_is_one (hr.mono (by decide)) rfl (pa_cons (yv 3) (pa_cons (pe_callB cr_isX rfl B.isinstance (by decide +kernel) (pa_cons (yv 3) (pa_cons (pe_glob rfl (GC "BadKey" (by decide)) rfl) pa_nil))) pa_nil))) (pe_one (ye_call c_is_one (hr.mono (by decide)) rfl (pa_cons (yv 4) (pa_cons (pe_callB cr_isX rfl B.isinstance (by decide +kernel) (pa_cons (yv 4) (pa_cons (pe_glob rfl (GC "OtherTracks" (by decide)) rfl) pa_nil))) pa_nil)))))))
    (pss_cons (ps_set (i := 9) sc_others_right.nd rfl (by first | exact Or.inl rfl | exact Or.inr rfl) (ye_and (yv 9) (ye_and (ye_call c_is_one (hr.mono (by decide)) rfl (pa_cons (yv 5) (pa_cons (pe_callB cr_isX rfl B.isinstance (by decide +kernel) (pa_cons (yv 5) (pa_cons (pe_glob rfl (GC "Recording" (by decide)) rfl) pa_nil))) pa_nil))) (pe_one (ye_call c_is_one (hr.mono (by decide)) rfl (pa_cons (yv 7) (pa_cons (pe_callB cr_isX rfl B.isinstance (by decide +kernel) (pa_cons (yv 7) (pa_cons (pe_glob rfl (GC "TooLong" (by decide)) rfl) pa_nil))) pa_nil)))))))
    (pss_one (ps_ret (ye_and (yv 9) (ye_and (ye_call c_is_one (hr.mono (by decide)) rfl (pa_cons (yv 6) (pa_cons (pe_callB cr_isX rfl B.isinstance (by decide +kernel) (pa_cons (yv 6) (pa_cons (pe_glob rfl (GC "NotRecording" (by decide)) rfl) pa_nil))) pa_nil))) (pe_one (ye_call c_is_one (hr.mono (by decide)) rfl (pa_cons (yv 8) (pa_cons (pe_callB cr_isX rfl B.isinstance (by decide +kernel) (pa_cons (yv 8) (pa_cons (pe_glob rfl (GC "NothingToUndo" (by decide)) rfl) pa_nil))) pa_nil))))))))))))))
abbrev s_law : Stmt := top 31
theorem sc_law : FnScope N_law ["_law_script"] (defScope s_law) := ⟨rfl, rfl, rfl, by decide +kernel, rfl, by decide +kernel, by decide +kernel⟩
theorem ok_law {f : Addr} {fd : FuncData} (B : Blt mg) (c_begun_pen : Cal P w K mg base "_law_begun_pen" 1 ["_law_script"] (sp_begun_pen K)) (c_new_names : Cal P w K mg base "_law_new_names" 3 ["_law_pen", "_law_many"] (sp_new_names K)) (c_draw : Cal P w K mg base "_law_draw" 1 ["_law_pen", "_law_span"] (sp_draw K)) (c_numbered : Cal P w K mg base "_law_numbered" 3 ["_law_number"] (sp_numbered K)) (c_is_one : Cal P w K mg base "_law_is_one" 2 ["_law_e", "_law_kind"] (sp_is_one K)) (c_named : Cal P w K mg base "_law_named" 3 ["_law_text"] (sp_named K)) (c_others_right : Cal P w K mg base "_law_others_right" 4 ["_law_pen"] (sp_others_right K))  (F : FunD K "law" "law" (defArgs s_law) (defBody s_law) (defScope s_law) [] [] f fd) : FnOk P w K mg base (L2.CX P w) 5 f fd ["_law_script"] (sp_law K) := by
  refine F.ok sc_law (fun vs H Q E h => len_law h) (fun cdv A outer s H vs Q E hr h => ⟨t_law K E, ?_, pure_law h⟩)
  have po := passes_of (X := cxOf (L2.CX P w) P w K mg base N_law "law" (defScope s_law) f cdv A outer s H E) rfl
  exact (pss_cons (ps_set (i := 1) sc_law.nd rfl (by first | exact Or.inl rfl | exact Or.inr rfl) (ye_call c_begun_pen (hr.mono (by decide)) rfl (pa_cons (yv 0) pa_nil)))
    (pss_cons (ys_for po rfl (j_rng rfl B.range pe_int) (pg_name (i := 2) sc_law.nd rfl (by first | exact Or.inl rfl | exact Or.inr rfl)) (pss_cons (ys_par (ps_par (i := 3) (j := 4) (by rfl) sc_law.nd rfl rfl (by decide) rfl rfl (PA.up (pa_cons (pe_op op_zSub (ye_call c_draw (hr.mono (by decide)) rfl (pa_cons (yv 1) (pa_cons (pe_op op_zPow pe_int pe_int) pa_nil))) (yv 2)) (pa_cons (pe_ix ix_zIxL (ye_call c_new_names (hr.mono (by decide)) rfl (pa_cons (yv 1) (pa_cons pe_int pa_nil))) pe_int (fun _ _ => rfl)) pa_nil))) (by rfl)))
    (pss_cons (ys_for po rfl (j_lst (ye_call c_numbered (hr.mono (by decide)) rfl (pa_cons (yv 3) pa_nil))) (pg_tup rfl (pgs_cons (pg_name (i := 5) sc_law.nd rfl (by first | exact Or.inl rfl | exact Or.inr rfl)) (pgs_cons (pg_name (i := 6) sc_law.nd rfl (by first | exact Or.inl rfl | exact Or.inr rfl)) (pgs_cons (pg_name (i := 7) sc_law.nd rfl (by first | exact Or.inl rfl | exact Or.inr rfl)) pgs_nil)))) (pss_one (ys_if (PW.pt (yt_or (yt_cmp op_zNe (pe_callB cr_repr rfl B.repr (by decide +kernel) (pa_cons (yv 6) pa_nil)) (pe_callB cr_repr rfl B.repr (by decide +kernel) (pa_cons (yv 3) pa_nil)) (by rfl)) (pw_or1 (yt_not (yt_val (ye_call c_is_one (hr.mono (by decide)) rfl (pa_cons (yv 5) (pa_cons (yv 7) pa_nil)))))))) (pss_one (ps_ret pe_bl)) pss_nil)))
    (pss_cons (ys_for po rfl (j_lst (ye_call c_named (hr.mono (by decide)) rfl (pa_cons (yv 4) pa_nil))) (pg_tup rfl (pgs_cons (pg_name (i := 5) sc_law.nd rfl (by first | exact Or.inl rfl | exact Or.inr rfl)) (pgs_cons (pg_name (i := 6) sc_law.nd rfl (by first | exact Or.inl rfl | exact Or.inr rfl)) (pgs_cons (pg_name (i := 7) sc_law.nd rfl (by first | exact Or.inl rfl | exact Or.inr rfl)) pgs_nil)))) (pss_one (ys_if (PW.pt (yt_or (yt_cmp op_zNe (pe_callB cr_repr rfl B.repr (by decide +kernel) (pa_cons (yv 6) pa_nil)) (pe_callB cr_repr rfl B.repr (by decide +kernel) (pa_cons (yv 4) pa_nil)) (by rfl)) (pw_or1 (yt_not (yt_val (ye_call c_is_one (hr.mono (by decide)) rfl (pa_cons (yv 5) (pa_cons (yv 7) pa_nil)))))))) (pss_one (ps_ret pe_bl)) pss_nil)))
    (pss_one (ys_if (yt_not (yt_val (ye_call c_others_right (hr.mono (by decide)) rfl (pa_cons (yv 1) pa_nil)))) (pss_one (ps_ret pe_bl)) pss_nil))))))
    (pss_one (ps_ret pe_bl))))
end
end Eb

namespace Eb
open PySem PySem.Spec PyProof.Rows L2
/-! ### the head -/
def dD (x : Str) (i : Nat) : He.DefD := ⟨(x, none), x, x, defArgs (top i), defBody (top i), defScope (top i), [], []⟩
abbrev XS (i : Nat) : Stmt := inClass (top i) 0
def glos : List Str := ["_law_begun_pen", "_law_draw", "_law_shuffled", "_law_new_names", "_law_classes", "_law_is_one", "_law_numbered", "_law_named", "_law_others_right", "law"]
def blts : List Str := ["abs", "all", "dict", "enumerate", "int", "isinstance", "len", "list", "max", "min", "range", "repr", "set", "sorted", "str", "sum", "super", "tuple", "zip", "ValueError", "TypeError"]
def fas : List He.Fa := glos.map He.Fa.glo ++ (clsN.map He.Fa.glo ++ blts.map He.Fa.free)
def fns : List He.DefD := [dD "_law_begun_pen" 22, dD "_law_draw" 23, dD "_law_shuffled" 24, dD "_law_new_names" 25, dD "_law_classes" 26, dD "_law_is_one" 27, dD "_law_numbered" 28, dD "_law_named" 29, dD "_law_others_right" 30, dD "law" 31]
def xss : List XD := [mkXD "BadSheet" "BadSheet.__init__" (XS 2), mkXD "BadTracks" "BadTracks.__init__" (XS 3), mkXD "BadMacro" "BadMacro.__init__" (XS 4), mkXD "BadSaying" "BadSaying.__init__" (XS 5), mkXD "BadKey" "BadKey.__init__" (XS 6), mkXD "BadCount" "BadCount.__init__" (XS 7),
  mkXD "NoTrack" "NoTrack.__init__" (XS 8), mkXD "NoColumn" "NoColumn.__init__" (XS 9), mkXD "OtherTracks" "OtherTracks.__init__" (XS 10), mkXD "HasHere" "HasHere.__init__" (XS 11), mkXD "BadName" "BadName.__init__" (XS 12), mkXD "NoMacro" "NoMacro.__init__" (XS 13), mkXD "Taken" "Taken.__init__" (XS 14),
  mkXD "NoGuard" "NoGuard.__init__" (XS 15), mkXD "Barred" "Barred.__init__" (XS 16), mkXD "Recording" "Recording.__init__" (XS 17), mkXD "NotRecording" "NotRecording.__init__" (XS 18), mkXD "TooLong" "TooLong.__init__" (XS 19), mkXD "NothingToUndo" "NothingToUndo.__init__" (XS 20)]
def exK (K : PySem.W.Frag) : Bool := XN.all fun x => (FLD.all fun f => He.eqO (PySem.W.findIn K (.ref (He.ga K x)) f) (some none)) && (eqB (PySem.W.kitOne K (.ref (He.ga K x)) (.ref (He.ga K "EdgeError"))) true && (eqB (PySem.W.kitOne K (.ref (He.ga K x)) (.type "ValueError")) true &&
  XN.all fun y => eqB (PySem.W.kitOne K (.ref (He.ga K x)) (.ref (He.ga K y))) (decide (y = x))))
def hD : HD := { n := 4, fa := fas, fn := fns, xs := xss, ex := exK }
abbrev RR : PySem.W.OpenRow := PySem.W.OpenLaw.row PySem.Challenge.rw_edgejumps_k18_errors
abbrev hkk : PySem.W.Hook := hookF RR.prog hD
def obb (s : PySem.W.SharedT) : AlE := obsFG RR.prog hD (HandSHeadRun.getT s)
theorem obb_eq (s : PySem.W.SharedT) : obb s = hkk.obs s.abs := obsFG_eq (HandSHeadRun.getT_eq s)
def loose : List Str := ["EdgeError", "BadCount", "BadKey", "BadMacro", "BadName", "BadSaying", "BadSheet", "BadTracks", "Barred", "HasHere", "NoColumn", "NoGuard", "NoMacro", "NoTrack", "NotRecording", "NothingToUndo", "OtherTracks", "Recording", "Taken", "TooLong",
  "_law_begun_pen", "_law_draw", "_law_shuffled", "_law_new_names", "_law_classes", "_law_is_one", "_law_numbered", "_law_named", "_law_others_right", "__name__"]
theorem runH (w : World) : HandSHeadRun.RunEq RR (PySem.W.view RR.prog [31]) hkk obb 6000 loose w := by
  intro os
  kernel_rfl
end Eb

namespace Eb
open PySem PySem.Spec PyProof.Rows L2
theorem ok_cx0 {P : Program} {w : World} {K : PySem.W.Frag} {mg : Str → Option Value} {base : Heap} {k : Nat} {f : Addr} {fd : FuncData} {ps : List Str} {sp : Sp} (F : FnOk P w K mg base (L2.CX P w) k f fd ps sp) : FnOk P w K mg base CX0 k f fd ps (fun vs H Q _ => sp vs H Q E0) :=
  ⟨fun vs H Q E h => F.len _ _ _ _ h, fun A outer s H args us vs Q E hr e0 hb hv hs => codeAny_mono (F.run A outer s H args us vs Q E0 hr e0 hb hv hs) fun r s' hq => by
    cases r with
    | error e =>
      obtain ⟨_, _, _, _, _, _, _, _, _, _, _, _, h⟩ := hq
      exact h.elim
    | ok fl => cases fl <;> exact hq⟩
theorem cal_of {P : Program} {w : World} {K : PySem.W.Frag} {mg : Str → Option Value} {base : Heap} {x : Str} {params : Arguments} {body : List Stmt} {scope : Scope} {k : Nat} {ps : List Str} {sp : Sp} {fd : FuncData} (F : FunD K x x params body scope [] [] (He.fAd K (x, none)) fd) (g : mg x = some (.ref (He.ga K x)))
    (ok : FnOk P w K mg base (L2.CX P w) k (He.fAd K (x, none)) fd ps sp) (hb : ∀ (kV doc pm : Value) (an : Option Addr) (cdv ct : Value) (us : List Value), us.length = ps.length → bindArgs (PySem.W.fnOf x x params body scope .none kV doc pm an cdv ct) ⟨us, []⟩ = pure (ps.zip us)) :
    Cal P w K mg base x k ps sp := ⟨_, _, ok, g, F.kp, F.bindsN hb⟩
section
variable {P : Program} {w : World} {K : PySem.W.Frag} {mg : Str → Option Value} {base : Heap} {f : Addr} {fd : FuncData}
theorem mk_BadSheet (A : XcAll P K "BadSheet" (inClass (top 2) 0) "BadSheet.__init__" f fd) (g : mg "BadSheet" = some (.ref (He.ga K "BadSheet"))) (hs : mg "super" = none) (no : PySem.W.findIn K (.ref (He.ga K "BadSheet")) "line" = some none) :
    Mk P w K mg base "BadSheet" (He.ga K "BadSheet") ["self", "line"] (spI1 (He.ga K "BadSheet") "line" fmtOk) :=
  mk_of_all A g (ini1 A.fn hs rfl ⟨rfl, rfl, rfl, by decide +kernel, rfl, by decide +kernel, by decide +kernel, by decide +kernel, rfl, rfl⟩ rfl rfl no (says_f3 (by decide) (by decide) (by decide) (by decide)) (by decide) (by decide))
    (fun _ _ _ _ _ _ _ us hl => match us, hl with | [_, _], _ => rfl)
theorem mk_BadTracks (A : XcAll P K "BadTracks" (inClass (top 3) 0) "BadTracks.__init__" f fd) (g : mg "BadTracks" = some (.ref (He.ga K "BadTracks"))) (hs : mg "super" = none) (no : PySem.W.findIn K (.ref (He.ga K "BadTracks")) "index" = some none) :
    Mk P w K mg base "BadTracks" (He.ga K "BadTracks") ["self", "index"] (spI1 (He.ga K "BadTracks") "index" fmtOk) :=
  mk_of_all A g (ini1 A.fn hs rfl ⟨rfl, rfl, rfl, by decide +kernel, rfl, by decide +kernel, by decide +kernel, by decide +kernel, rfl, rfl⟩ rfl rfl no (says_f3 (by decide) (by decide) (by decide) (by decide)) (by decide) (by decide))
    (fun _ _ _ _ _ _ _ us hl => match us, hl with | [_, _], _ => rfl)
theorem mk_BadMacro (A : XcAll P K "BadMacro" (inClass (top 4) 0) "BadMacro.__init__" f fd) (g : mg "BadMacro" = some (.ref (He.ga K "BadMacro"))) (hs : mg "super" = none) (no : PySem.W.findIn K (.ref (He.ga K "BadMacro")) "line" = some none) :
    Mk P w K mg base "BadMacro" (He.ga K "BadMacro") ["self", "line"] (spI1 (He.ga K "BadMacro") "line" fmtOk) :=
  mk_of_all A g (ini1 A.fn hs rfl ⟨rfl, rfl, rfl, by decide +kernel, rfl, by decide +kernel, by decide +kernel, by decide +kernel, rfl, rfl⟩ rfl rfl no (says_f3 (by decide) (by decide) (by decide) (by decide)) (by decide) (by decide))
    (fun _ _ _ _ _ _ _ us hl => match us, hl with | [_, _], _ => rfl)
theorem mk_BadSaying (A : XcAll P K "BadSaying" (inClass (top 5) 0) "BadSaying.__init__" f fd) (g : mg "BadSaying" = some (.ref (He.ga K "BadSaying"))) (hs : mg "super" = none) (no : PySem.W.findIn K (.ref (He.ga K "BadSaying")) "index" = some none) :
    Mk P w K mg base "BadSaying" (He.ga K "BadSaying") ["self", "index"] (spI1 (He.ga K "BadSaying") "index" fmtOk) :=
  mk_of_all A g (ini1 A.fn hs rfl ⟨rfl, rfl, rfl, by decide +kernel, rfl, by decide +kernel, by decide +kernel, by decide +kernel, rfl, rfl⟩ rfl rfl no (says_f3 (by decide) (by decide) (by decide) (by decide)) (by decide) (by decide))
    (fun _ _ _ _ _ _ _ us hl => match us, hl with | [_, _], _ => rfl)
theorem mk_BadKey (A : XcAll P K "BadKey" (inClass (top 6) 0) "BadKey.__init__" f fd) (g : mg "BadKey" = some (.ref (He.ga K "BadKey"))) (hs : mg "super" = none) :
    Mk P w K mg base "BadKey" (He.ga K "BadKey") ["self"] (spI0 (He.ga K "BadKey")) :=
  mk_of_all A g (ini0 A.fn hs rfl ⟨rfl, rfl, rfl, by decide +kernel, rfl, by decide +kernel, by decide +kernel, by decide +kernel, rfl, rfl⟩ rfl rfl)
    (fun _ _ _ _ _ _ _ us hl => match us, hl with | [_], _ => rfl)
theorem mk_BadCount (A : XcAll P K "BadCount" (inClass (top 7) 0) "BadCount.__init__" f fd) (g : mg "BadCount" = some (.ref (He.ga K "BadCount"))) (hs : mg "super" = none) (no : PySem.W.findIn K (.ref (He.ga K "BadCount")) "count" = some none) :
    Mk P w K mg base "BadCount" (He.ga K "BadCount") ["self", "count"] (spI1 (He.ga K "BadCount") "count" anyOk) :=
  mk_of_all A g (ini1 A.fn hs rfl ⟨rfl, rfl, rfl, by decide +kernel, rfl, by decide +kernel, by decide +kernel, by decide +kernel, rfl, rfl⟩ rfl rfl no says_const (by decide) (by decide))
    (fun _ _ _ _ _ _ _ us hl => match us, hl with | [_, _], _ => rfl)
theorem mk_NoTrack (A : XcAll P K "NoTrack" (inClass (top 8) 0) "NoTrack.__init__" f fd) (g : mg "NoTrack" = some (.ref (He.ga K "NoTrack"))) (hs : mg "super" = none) (no : PySem.W.findIn K (.ref (He.ga K "NoTrack")) "name" = some none) :
    Mk P w K mg base "NoTrack" (He.ga K "NoTrack") ["self", "name"] (spI1 (He.ga K "NoTrack") "name" fmtOk) :=
  mk_of_all A g (ini1 A.fn hs rfl ⟨rfl, rfl, rfl, by decide +kernel, rfl, by decide +kernel, by decide +kernel, by decide +kernel, rfl, rfl⟩ rfl rfl no (says_f2 (by decide) (by decide) (by decide)) (by decide) (by decide))
    (fun _ _ _ _ _ _ _ us hl => match us, hl with | [_, _], _ => rfl)
theorem mk_NoColumn (A : XcAll P K "NoColumn" (inClass (top 9) 0) "NoColumn.__init__" f fd) (g : mg "NoColumn" = some (.ref (He.ga K "NoColumn"))) (hs : mg "super" = none) (no : PySem.W.findIn K (.ref (He.ga K "NoColumn")) "column" = some none) :
    Mk P w K mg base "NoColumn" (He.ga K "NoColumn") ["self", "column"] (spI1 (He.ga K "NoColumn") "column" anyOk) :=
  mk_of_all A g (ini1 A.fn hs rfl ⟨rfl, rfl, rfl, by decide +kernel, rfl, by decide +kernel, by decide +kernel, by decide +kernel, rfl, rfl⟩ rfl rfl no says_const (by decide) (by decide))
    (fun _ _ _ _ _ _ _ us hl => match us, hl with | [_, _], _ => rfl)
theorem mk_OtherTracks (A : XcAll P K "OtherTracks" (inClass (top 10) 0) "OtherTracks.__init__" f fd) (g : mg "OtherTracks" = some (.ref (He.ga K "OtherTracks"))) (hs : mg "super" = none) :
    Mk P w K mg base "OtherTracks" (He.ga K "OtherTracks") ["self"] (spI0 (He.ga K "OtherTracks")) :=
  mk_of_all A g (ini0 A.fn hs rfl ⟨rfl, rfl, rfl, by decide +kernel, rfl, by decide +kernel, by decide +kernel, by decide +kernel, rfl, rfl⟩ rfl rfl)
    (fun _ _ _ _ _ _ _ us hl => match us, hl with | [_], _ => rfl)
theorem mk_HasHere (A : XcAll P K "HasHere" (inClass (top 11) 0) "HasHere.__init__" f fd) (g : mg "HasHere" = some (.ref (He.ga K "HasHere"))) (hs : mg "super" = none) (no : PySem.W.findIn K (.ref (He.ga K "HasHere")) "index" = some none) :
    Mk P w K mg base "HasHere" (He.ga K "HasHere") ["self", "index"] (spI1 (He.ga K "HasHere") "index" fmtOk) :=
  mk_of_all A g (ini1 A.fn hs rfl ⟨rfl, rfl, rfl, by decide +kernel, rfl, by decide +kernel, by decide +kernel, by decide +kernel, rfl, rfl⟩ rfl rfl no (says_f3 (by decide) (by decide) (by decide) (by decide)) (by decide) (by decide))
    (fun _ _ _ _ _ _ _ us hl => match us, hl with | [_, _], _ => rfl)
theorem mk_BadName (A : XcAll P K "BadName" (inClass (top 12) 0) "BadName.__init__" f fd) (g : mg "BadName" = some (.ref (He.ga K "BadName"))) (hs : mg "super" = none) (no : PySem.W.findIn K (.ref (He.ga K "BadName")) "name" = some none) :
    Mk P w K mg base "BadName" (He.ga K "BadName") ["self", "name"] (spI1 (He.ga K "BadName") "name" fmtOk) :=
  mk_of_all A g (ini1 A.fn hs rfl ⟨rfl, rfl, rfl, by decide +kernel, rfl, by decide +kernel, by decide +kernel, by decide +kernel, rfl, rfl⟩ rfl rfl no (says_f2 (by decide) (by decide) (by decide)) (by decide) (by decide))
    (fun _ _ _ _ _ _ _ us hl => match us, hl with | [_, _], _ => rfl)
theorem mk_NoMacro (A : XcAll P K "NoMacro" (inClass (top 13) 0) "NoMacro.__init__" f fd) (g : mg "NoMacro" = some (.ref (He.ga K "NoMacro"))) (hs : mg "super" = none) (no : PySem.W.findIn K (.ref (He.ga K "NoMacro")) "name" = some none) :
    Mk P w K mg base "NoMacro" (He.ga K "NoMacro") ["self", "name"] (spI1 (He.ga K "NoMacro") "name" fmtOk) :=
  mk_of_all A g (ini1 A.fn hs rfl ⟨rfl, rfl, rfl, by decide +kernel, rfl, by decide +kernel, by decide +kernel, by decide +kernel, rfl, rfl⟩ rfl rfl no (says_f2 (by decide) (by decide) (by decide)) (by decide) (by decide))
    (fun _ _ _ _ _ _ _ us hl => match us, hl with | [_, _], _ => rfl)
theorem mk_Taken (A : XcAll P K "Taken" (inClass (top 14) 0) "Taken.__init__" f fd) (g : mg "Taken" = some (.ref (He.ga K "Taken"))) (hs : mg "super" = none) (no : PySem.W.findIn K (.ref (He.ga K "Taken")) "name" = some none) :
    Mk P w K mg base "Taken" (He.ga K "Taken") ["self", "name"] (spI1 (He.ga K "Taken") "name" fmtOk) :=
  mk_of_all A g (ini1 A.fn hs rfl ⟨rfl, rfl, rfl, by decide +kernel, rfl, by decide +kernel, by decide +kernel, by decide +kernel, rfl, rfl⟩ rfl rfl no (says_f2 (by decide) (by decide) (by decide)) (by decide) (by decide))
    (fun _ _ _ _ _ _ _ us hl => match us, hl with | [_, _], _ => rfl)
theorem mk_NoGuard (A : XcAll P K "NoGuard" (inClass (top 15) 0) "NoGuard.__init__" f fd) (g : mg "NoGuard" = some (.ref (He.ga K "NoGuard"))) (hs : mg "super" = none) (no : PySem.W.findIn K (.ref (He.ga K "NoGuard")) "name" = some none) :
    Mk P w K mg base "NoGuard" (He.ga K "NoGuard") ["self", "name"] (spI1 (He.ga K "NoGuard") "name" fmtOk) :=
  mk_of_all A g (ini1 A.fn hs rfl ⟨rfl, rfl, rfl, by decide +kernel, rfl, by decide +kernel, by decide +kernel, by decide +kernel, rfl, rfl⟩ rfl rfl no (says_f2 (by decide) (by decide) (by decide)) (by decide) (by decide))
    (fun _ _ _ _ _ _ _ us hl => match us, hl with | [_, _], _ => rfl)
theorem mk_Barred (A : XcAll P K "Barred" (inClass (top 16) 0) "Barred.__init__" f fd) (g : mg "Barred" = some (.ref (He.ga K "Barred"))) (hs : mg "super" = none) (hl : mg "len" = none) (hi : mg "list" = none) (no : PySem.W.findIn K (.ref (He.ga K "Barred")) "names" = some none) :
    Mk P w K mg base "Barred" (He.ga K "Barred") ["self", "names"] (spIL K (He.ga K "Barred") "names") :=
  mk_of_all A g (iniL A.fn hs hl hi rfl ⟨rfl, rfl, rfl, by decide +kernel, rfl, by decide +kernel, by decide +kernel, by decide +kernel, rfl, rfl⟩ rfl rfl no (by decide) (by decide) rfl rfl (by decide))
    (fun _ _ _ _ _ _ _ us hl => match us, hl with | [_, _], _ => rfl)
theorem mk_Recording (A : XcAll P K "Recording" (inClass (top 17) 0) "Recording.__init__" f fd) (g : mg "Recording" = some (.ref (He.ga K "Recording"))) (hs : mg "super" = none) :
    Mk P w K mg base "Recording" (He.ga K "Recording") ["self"] (spI0 (He.ga K "Recording")) :=
  mk_of_all A g (ini0 A.fn hs rfl ⟨rfl, rfl, rfl, by decide +kernel, rfl, by decide +kernel, by decide +kernel, by decide +kernel, rfl, rfl⟩ rfl rfl)
    (fun _ _ _ _ _ _ _ us hl => match us, hl with | [_], _ => rfl)
theorem mk_NotRecording (A : XcAll P K "NotRecording" (inClass (top 18) 0) "NotRecording.__init__" f fd) (g : mg "NotRecording" = some (.ref (He.ga K "NotRecording"))) (hs : mg "super" = none) :
    Mk P w K mg base "NotRecording" (He.ga K "NotRecording") ["self"] (spI0 (He.ga K "NotRecording")) :=
  mk_of_all A g (ini0 A.fn hs rfl ⟨rfl, rfl, rfl, by decide +kernel, rfl, by decide +kernel, by decide +kernel, by decide +kernel, rfl, rfl⟩ rfl rfl)
    (fun _ _ _ _ _ _ _ us hl => match us, hl with | [_], _ => rfl)
theorem mk_TooLong (A : XcAll P K "TooLong" (inClass (top 19) 0) "TooLong.__init__" f fd) (g : mg "TooLong" = some (.ref (He.ga K "TooLong"))) (hs : mg "super" = none) :
    Mk P w K mg base "TooLong" (He.ga K "TooLong") ["self"] (spI0 (He.ga K "TooLong")) :=
  mk_of_all A g (ini0 A.fn hs rfl ⟨rfl, rfl, rfl, by decide +kernel, rfl, by decide +kernel, by decide +kernel, by decide +kernel, rfl, rfl⟩ rfl rfl)
    (fun _ _ _ _ _ _ _ us hl => match us, hl with | [_], _ => rfl)
theorem mk_NothingToUndo (A : XcAll P K "NothingToUndo" (inClass (top 20) 0) "NothingToUndo.__init__" f fd) (g : mg "NothingToUndo" = some (.ref (He.ga K "NothingToUndo"))) (hs : mg "super" = none) :
    Mk P w K mg base "NothingToUndo" (He.ga K "NothingToUndo") ["self"] (spI0 (He.ga K "NothingToUndo")) :=
  mk_of_all A g (ini0 A.fn hs rfl ⟨rfl, rfl, rfl, by decide +kernel, rfl, by decide +kernel, by decide +kernel, by decide +kernel, rfl, rfl⟩ rfl rfl)
    (fun _ _ _ _ _ _ _ us hl => match us, hl with | [_], _ => rfl)
end
theorem nd_all : ∀ i < 19, ∀ j < 19, decide (XN.getD j "" = XN.getD i "") = decide (j = i) := by decide +kernel
theorem nd_eq (i : Nat) (hi : i < 19) (j : Nat) (hj : j < 19) (x y : Str) (hx : XN[i]? = some x) (hy : XN[j]? = some y) : decide (y = x) = decide (j = i) := by
  have q := nd_all i hi j hj
  rw [List.getD_eq_getElem?_getD, List.getD_eq_getElem?_getD, hx, hy] at q
  exact q
theorem ends (w : World) {P : Program} {K : PySem.W.Frag} {h : Heap} {mg : Str → Option Value} {f : Addr} (X : K.In h) (G : h.Ns mainGlobals mg) (hfa : mg ("law" : Str) = some (.ref f)) (c : SaysF P hD w h K) :
    ∃ fd : FuncData, (∀ (s : Shared) (v : Value), BindsTo s fd ⟨[v], []⟩ [("_law_script", v)]) ∧ XFacts K ∧ ∀ base : Heap, K.In base → base.Ns mainGlobals mg → FnOk P w K mg base CX0 5 f fd ["_law_script"] (fun vs H Q _ => sp_law K vs H Q E0) := by
  have fact : ∀ fa ∈ fas, fa.ok K = true := fun fa hm => c.d.facts hm
  have g0 : ∀ x ∈ glos, mg x = some (.ref (He.ga K x)) := fun x hx => He.glo_ok X G (fact _ (List.mem_append_left _ (List.mem_map_of_mem hx)))
  have GC : ∀ x ∈ clsN, mg x = some (.ref (He.ga K x)) := fun x hx => He.glo_ok X G (fact _ (List.mem_append_right _ (List.mem_append_left _ (List.mem_map_of_mem hx))))
  have gf : ∀ x ∈ blts, mg x = none := fun x hx => He.free_ok X G (fact _ (List.mem_append_right _ (List.mem_append_right _ (List.mem_map_of_mem hx))))
  have B : Blt mg := ⟨gf _ (by decide), gf _ (by decide), gf _ (by decide), gf _ (by decide), gf _ (by decide), gf _ (by decide), gf _ (by decide), gf _ (by decide), gf _ (by decide), gf _ (by decide), gf _ (by decide), gf _ (by decide), gf _ (by decide), gf _ (by decide), gf _ (by decide), gf _ (by decide), gf _ (by decide), gf _ (by decide), gf _ (by decide), gf _ (by decide), gf _ (by decide)⟩
  have ex : exK K = true := c.x.more
  have kn : ∀ x ∈ XN, (∀ f ∈ FLD, PySem.W.findIn K (.ref (He.ga K x)) f = some none) ∧ PySem.W.kitOne K (.ref (He.ga K x)) (.ref (He.ga K "EdgeError")) = some true ∧ PySem.W.kitOne K (.ref (He.ga K x)) (.type "ValueError") = some true ∧
      ∀ y ∈ XN, PySem.W.kitOne K (.ref (He.ga K x)) (.ref (He.ga K y)) = some (decide (y = x)) := fun x hx => by
    obtain ⟨h1, h2⟩ := He.ba (List.all_eq_true.mp ex x hx)
    obtain ⟨h3, h4⟩ := He.ba h2
    obtain ⟨h5, h6⟩ := He.ba h4
    exact ⟨fun f hf => He.eqO_ok (List.all_eq_true.mp h1 f hf), of_decide_eq_true h3, of_decide_eq_true h5, fun y hy => of_decide_eq_true (List.all_eq_true.mp h6 y hy)⟩
  have no : ∀ x f : Str, x ∈ XN → f ∈ FLD → PySem.W.findIn K (.ref (He.ga K x)) f = some none := fun x f hx hf => (kn x hx).1 f hf
  obtain ⟨fd_begun_pen, F_begun_pen⟩ := c.d.def_ 0 (d := dD "_law_begun_pen" 22) rfl
  have c_begun_pen : ∀ base, Cal P w K mg base "_law_begun_pen" 1 ["_law_script"] (sp_begun_pen K) := fun base => cal_of F_begun_pen (g0 "_law_begun_pen" (by decide)) (ok_begun_pen B  F_begun_pen) (fun _ _ _ _ _ _ us hl => match us, hl with | [_], _ => rfl)
  obtain ⟨fd_draw, F_draw⟩ := c.d.def_ 1 (d := dD "_law_draw" 23) rfl
  have c_draw : ∀ base, Cal P w K mg base "_law_draw" 1 ["_law_pen", "_law_span"] (sp_draw K) := fun base => cal_of F_draw (g0 "_law_draw" (by decide)) (ok_draw B  F_draw) (fun _ _ _ _ _ _ us hl => match us, hl with | [_, _], _ => rfl)
  obtain ⟨fd_shuffled, F_shuffled⟩ := c.d.def_ 2 (d := dD "_law_shuffled" 24) rfl
  have c_shuffled : ∀ base, Cal P w K mg base "_law_shuffled" 2 ["_law_pen", "_law_items"] (sp_shuffled K) := fun base => cal_of F_shuffled (g0 "_law_shuffled" (by decide)) (ok_shuffled B (c_draw base) F_shuffled) (fun _ _ _ _ _ _ us hl => match us, hl with | [_, _], _ => rfl)
  obtain ⟨fd_new_names, F_new_names⟩ := c.d.def_ 3 (d := dD "_law_new_names" 25) rfl
  have c_new_names : ∀ base, Cal P w K mg base "_law_new_names" 3 ["_law_pen", "_law_many"] (sp_new_names K) := fun base => cal_of F_new_names (g0 "_law_new_names" (by decide)) (ok_new_names B (c_shuffled base) F_new_names) (fun _ _ _ _ _ _ us hl => match us, hl with | [_, _], _ => rfl)
  obtain ⟨fd_classes, F_classes⟩ := c.d.def_ 4 (d := dD "_law_classes" 26) rfl
  have c_classes : ∀ base, Cal P w K mg base "_law_classes" 1 ["_law_e"] (sp_classes K) := fun base => cal_of F_classes (g0 "_law_classes" (by decide)) (ok_classes B  GC F_classes) (fun _ _ _ _ _ _ us hl => match us, hl with | [_], _ => rfl)
  obtain ⟨fd_is_one, F_is_one⟩ := c.d.def_ 5 (d := dD "_law_is_one" 27) rfl
  have c_is_one : ∀ base, Cal P w K mg base "_law_is_one" 2 ["_law_e", "_law_kind"] (sp_is_one K) := fun base => cal_of F_is_one (g0 "_law_is_one" (by decide)) (ok_is_one B (c_classes base) GC F_is_one) (fun _ _ _ _ _ _ us hl => match us, hl with | [_, _], _ => rfl)
  obtain ⟨f_BadTracks, fd_BadTracks, A_BadTracks⟩ := c.exc (x := "BadTracks") (qual := "BadTracks.__init__") (st := inClass (top 3) 0) (List.mem_of_getElem? (l := xss) (i := 1) rfl)
  have m_BadTracks : ∀ base, Mk P w K mg base "BadTracks" (He.ga K "BadTracks") ["self", "index"] (spI1 (He.ga K "BadTracks") "index" fmtOk) := fun base => mk_BadTracks A_BadTracks (GC "BadTracks" (by decide)) B.super (no "BadTracks" "index" (by decide) (by decide))
  obtain ⟨f_BadMacro, fd_BadMacro, A_BadMacro⟩ := c.exc (x := "BadMacro") (qual := "BadMacro.__init__") (st := inClass (top 4) 0) (List.mem_of_getElem? (l := xss) (i := 2) rfl)
  have m_BadMacro : ∀ base, Mk P w K mg base "BadMacro" (He.ga K "BadMacro") ["self", "line"] (spI1 (He.ga K "BadMacro") "line" fmtOk) := fun base => mk_BadMacro A_BadMacro (GC "BadMacro" (by decide)) B.super (no "BadMacro" "line" (by decide) (by decide))
  obtain ⟨f_BadSheet, fd_BadSheet, A_BadSheet⟩ := c.exc (x := "BadSheet") (qual := "BadSheet.__init__") (st := inClass (top 2) 0) (List.mem_of_getElem? (l := xss) (i := 0) rfl)
  have m_BadSheet : ∀ base, Mk P w K mg base "BadSheet" (He.ga K "BadSheet") ["self", "line"] (spI1 (He.ga K "BadSheet") "line" fmtOk) := fun base => mk_BadSheet A_BadSheet (GC "BadSheet" (by decide)) B.super (no "BadSheet" "line" (by decide) (by decide))
  obtain ⟨f_HasHere, fd_HasHere, A_HasHere⟩ := c.exc (x := "HasHere") (qual := "HasHere.__init__") (st := inClass (top 11) 0) (List.mem_of_getElem? (l := xss) (i := 9) rfl)
  have m_HasHere : ∀ base, Mk P w K mg base "HasHere" (He.ga K "HasHere") ["self", "index"] (spI1 (He.ga K "HasHere") "index" fmtOk) := fun base => mk_HasHere A_HasHere (GC "HasHere" (by decide)) B.super (no "HasHere" "index" (by decide) (by decide))
  obtain ⟨f_BadSaying, fd_BadSaying, A_BadSaying⟩ := c.exc (x := "BadSaying") (qual := "BadSaying.__init__") (st := inClass (top 5) 0) (List.mem_of_getElem? (l := xss) (i := 3) rfl)
  have m_BadSaying : ∀ base, Mk P w K mg base "BadSaying" (He.ga K "BadSaying") ["self", "index"] (spI1 (He.ga K "BadSaying") "index" fmtOk) := fun base => mk_BadSaying A_BadSaying (GC "BadSaying" (by decide)) B.super (no "BadSaying" "index" (by decide) (by decide))
  obtain ⟨f_NoColumn, fd_NoColumn, A_NoColumn⟩ := c.exc (x := "NoColumn") (qual := "NoColumn.__init__") (st := inClass (top 9) 0) (List.mem_of_getElem? (l := xss) (i := 7) rfl)
  have m_NoColumn : ∀ base, Mk P w K mg base "NoColumn" (He.ga K "NoColumn") ["self", "column"] (spI1 (He.ga K "NoColumn") "column" anyOk) := fun base => mk_NoColumn A_NoColumn (GC "NoColumn" (by decide)) B.super (no "NoColumn" "column" (by decide) (by decide))
  obtain ⟨f_BadCount, fd_BadCount, A_BadCount⟩ := c.exc (x := "BadCount") (qual := "BadCount.__init__") (st := inClass (top 7) 0) (List.mem_of_getElem? (l := xss) (i := 5) rfl)
  have m_BadCount : ∀ base, Mk P w K mg base "BadCount" (He.ga K "BadCount") ["self", "count"] (spI1 (He.ga K "BadCount") "count" anyOk) := fun base => mk_BadCount A_BadCount (GC "BadCount" (by decide)) B.super (no "BadCount" "count" (by decide) (by decide))
  obtain ⟨fd_numbered, F_numbered⟩ := c.d.def_ 6 (d := dD "_law_numbered" 28) rfl
  have c_numbered : ∀ base, Cal P w K mg base "_law_numbered" 3 ["_law_number"] (sp_numbered K) := fun base => cal_of F_numbered (g0 "_law_numbered" (by decide)) (ok_numbered B  (m_BadTracks base) (m_BadMacro base) (m_BadSheet base) (m_HasHere base) (m_BadSaying base) (m_NoColumn base) (m_BadCount base) GC F_numbered) (fun _ _ _ _ _ _ us hl => match us, hl with | [_], _ => rfl)
  obtain ⟨f_NoMacro, fd_NoMacro, A_NoMacro⟩ := c.exc (x := "NoMacro") (qual := "NoMacro.__init__") (st := inClass (top 13) 0) (List.mem_of_getElem? (l := xss) (i := 11) rfl)
  have m_NoMacro : ∀ base, Mk P w K mg base "NoMacro" (He.ga K "NoMacro") ["self", "name"] (spI1 (He.ga K "NoMacro") "name" fmtOk) := fun base => mk_NoMacro A_NoMacro (GC "NoMacro" (by decide)) B.super (no "NoMacro" "name" (by decide) (by decide))
  obtain ⟨f_BadName, fd_BadName, A_BadName⟩ := c.exc (x := "BadName") (qual := "BadName.__init__") (st := inClass (top 12) 0) (List.mem_of_getElem? (l := xss) (i := 10) rfl)
  have m_BadName : ∀ base, Mk P w K mg base "BadName" (He.ga K "BadName") ["self", "name"] (spI1 (He.ga K "BadName") "name" fmtOk) := fun base => mk_BadName A_BadName (GC "BadName" (by decide)) B.super (no "BadName" "name" (by decide) (by decide))
  obtain ⟨f_NoTrack, fd_NoTrack, A_NoTrack⟩ := c.exc (x := "NoTrack") (qual := "NoTrack.__init__") (st := inClass (top 8) 0) (List.mem_of_getElem? (l := xss) (i := 6) rfl)
  have m_NoTrack : ∀ base, Mk P w K mg base "NoTrack" (He.ga K "NoTrack") ["self", "name"] (spI1 (He.ga K "NoTrack") "name" fmtOk) := fun base => mk_NoTrack A_NoTrack (GC "NoTrack" (by decide)) B.super (no "NoTrack" "name" (by decide) (by decide))
  obtain ⟨f_NoGuard, fd_NoGuard, A_NoGuard⟩ := c.exc (x := "NoGuard") (qual := "NoGuard.__init__") (st := inClass (top 15) 0) (List.mem_of_getElem? (l := xss) (i := 13) rfl)
  have m_NoGuard : ∀ base, Mk P w K mg base "NoGuard" (He.ga K "NoGuard") ["self", "name"] (spI1 (He.ga K "NoGuard") "name" fmtOk) := fun base => mk_NoGuard A_NoGuard (GC "NoGuard" (by decide)) B.super (no "NoGuard" "name" (by decide) (by decide))
  obtain ⟨f_Taken, fd_Taken, A_Taken⟩ := c.exc (x := "Taken") (qual := "Taken.__init__") (st := inClass (top 14) 0) (List.mem_of_getElem? (l := xss) (i := 12) rfl)
  have m_Taken : ∀ base, Mk P w K mg base "Taken" (He.ga K "Taken") ["self", "name"] (spI1 (He.ga K "Taken") "name" fmtOk) := fun base => mk_Taken A_Taken (GC "Taken" (by decide)) B.super (no "Taken" "name" (by decide) (by decide))
  obtain ⟨fd_named, F_named⟩ := c.d.def_ 7 (d := dD "_law_named" 29) rfl
  have c_named : ∀ base, Cal P w K mg base "_law_named" 3 ["_law_text"] (sp_named K) := fun base => cal_of F_named (g0 "_law_named" (by decide)) (ok_named B  (m_NoMacro base) (m_BadName base) (m_NoTrack base) (m_NoGuard base) (m_Taken base) GC F_named) (fun _ _ _ _ _ _ us hl => match us, hl with | [_], _ => rfl)
  obtain ⟨f_Recording, fd_Recording, A_Recording⟩ := c.exc (x := "Recording") (qual := "Recording.__init__") (st := inClass (top 17) 0) (List.mem_of_getElem? (l := xss) (i := 15) rfl)
  have m_Recording : ∀ base, Mk P w K mg base "Recording" (He.ga K "Recording") ["self"] (spI0 (He.ga K "Recording")) := fun base => mk_Recording A_Recording (GC "Recording" (by decide)) B.super
  obtain ⟨f_OtherTracks, fd_OtherTracks, A_OtherTracks⟩ := c.exc (x := "OtherTracks") (qual := "OtherTracks.__init__") (st := inClass (top 10) 0) (List.mem_of_getElem? (l := xss) (i := 8) rfl)
  have m_OtherTracks : ∀ base, Mk P w K mg base "OtherTracks" (He.ga K "OtherTracks") ["self"] (spI0 (He.ga K "OtherTracks")) := fun base => mk_OtherTracks A_OtherTracks (GC "OtherTracks" (by decide)) B.super
  obtain ⟨f_BadKey, fd_BadKey, A_BadKey⟩ := c.exc (x := "BadKey") (qual := "BadKey.__init__") (st := inClass (top 6) 0) (List.mem_of_getElem? (l := xss) (i := 4) rfl)
  have m_BadKey : ∀ base, Mk P w K mg base "BadKey" (He.ga K "BadKey") ["self"] (spI0 (He.ga K "BadKey")) := fun base => mk_BadKey A_BadKey (GC "BadKey" (by decide)) B.super
  obtain ⟨f_Barred, fd_Barred, A_Barred⟩ := c.exc (x := "Barred") (qual := "Barred.__init__") (st := inClass (top 16) 0) (List.mem_of_getElem? (l := xss) (i := 14) rfl)
  have m_Barred : ∀ base, Mk P w K mg base "Barred" (He.ga K "Barred") ["self", "names"] (spIL K (He.ga K "Barred") "names") := fun base => mk_Barred A_Barred (GC "Barred" (by decide)) B.super B.len B.list (no "Barred" "names" (by decide) (by decide))
  obtain ⟨f_NothingToUndo, fd_NothingToUndo, A_NothingToUndo⟩ := c.exc (x := "NothingToUndo") (qual := "NothingToUndo.__init__") (st := inClass (top 20) 0) (List.mem_of_getElem? (l := xss) (i := 18) rfl)
  have m_NothingToUndo : ∀ base, Mk P w K mg base "NothingToUndo" (He.ga K "NothingToUndo") ["self"] (spI0 (He.ga K "NothingToUndo")) := fun base => mk_NothingToUndo A_NothingToUndo (GC "NothingToUndo" (by decide)) B.super
  obtain ⟨f_TooLong, fd_TooLong, A_TooLong⟩ := c.exc (x := "TooLong") (qual := "TooLong.__init__") (st := inClass (top 19) 0) (List.mem_of_getElem? (l := xss) (i := 17) rfl)
  have m_TooLong : ∀ base, Mk P w K mg base "TooLong" (He.ga K "TooLong") ["self"] (spI0 (He.ga K "TooLong")) := fun base => mk_TooLong A_TooLong (GC "TooLong" (by decide)) B.super
  obtain ⟨f_NotRecording, fd_NotRecording, A_NotRecording⟩ := c.exc (x := "NotRecording") (qual := "NotRecording.__init__") (st := inClass (top 18) 0) (List.mem_of_getElem? (l := xss) (i := 16) rfl)
  have m_NotRecording : ∀ base, Mk P w K mg base "NotRecording" (He.ga K "NotRecording") ["self"] (spI0 (He.ga K "NotRecording")) := fun base => mk_NotRecording A_NotRecording (GC "NotRecording" (by decide)) B.super
  obtain ⟨fd_others_right, F_others_right⟩ := c.d.def_ 8 (d := dD "_law_others_right" 30) rfl
  have c_others_right : ∀ base, Cal P w K mg base "_law_others_right" 4 ["_law_pen"] (sp_others_right K) := fun base => cal_of F_others_right (g0 "_law_others_right" (by decide)) (ok_others_right B (c_draw base) (c_new_names base) (c_is_one base) (m_Recording base) (m_OtherTracks base) (m_BadKey base) (m_Barred base) (m_NothingToUndo base) (m_TooLong base) (m_NotRecording base) GC F_others_right) (fun _ _ _ _ _ _ us hl => match us, hl with | [_], _ => rfl)
  obtain ⟨fd_law, F_law⟩ := c.d.def_ 9 (d := dD "law" 31) rfl
  have c_law : ∀ base, Cal P w K mg base "law" 5 ["_law_script"] (sp_law K) := fun base => cal_of F_law (g0 "law" (by decide)) (ok_law B (c_begun_pen base) (c_new_names base) (c_draw base) (c_numbered base) (c_is_one base) (c_named base) (c_others_right base) F_law) (fun _ _ _ _ _ _ us hl => match us, hl with | [_], _ => rfl)
  have xe : ∀ x ∈ XN, XfC K (He.ga K x) ∧ ExcC K (He.ga K x) := by
    intro x hx
    simp only [XN, List.mem_cons, List.not_mem_nil, or_false] at hx
    rcases hx with rfl | rfl | rfl | rfl | rfl | rfl | rfl | rfl | rfl | rfl | rfl | rfl | rfl | rfl | rfl | rfl | rfl | rfl | rfl
    · exact ⟨A_BadCount.xf, A_BadCount.ec⟩
    · exact ⟨A_BadKey.xf, A_BadKey.ec⟩
    · exact ⟨A_BadMacro.xf, A_BadMacro.ec⟩
    · exact ⟨A_BadName.xf, A_BadName.ec⟩
    · exact ⟨A_BadSaying.xf, A_BadSaying.ec⟩
    · exact ⟨A_BadSheet.xf, A_BadSheet.ec⟩
    · exact ⟨A_BadTracks.xf, A_BadTracks.ec⟩
    · exact ⟨A_Barred.xf, A_Barred.ec⟩
    · exact ⟨A_HasHere.xf, A_HasHere.ec⟩
    · exact ⟨A_NoColumn.xf, A_NoColumn.ec⟩
    · exact ⟨A_NoGuard.xf, A_NoGuard.ec⟩
    · exact ⟨A_NoMacro.xf, A_NoMacro.ec⟩
    · exact ⟨A_NoTrack.xf, A_NoTrack.ec⟩
    · exact ⟨A_NotRecording.xf, A_NotRecording.ec⟩
    · exact ⟨A_NothingToUndo.xf, A_NothingToUndo.ec⟩
    · exact ⟨A_OtherTracks.xf, A_OtherTracks.ec⟩
    · exact ⟨A_Recording.xf, A_Recording.ec⟩
    · exact ⟨A_Taken.xf, A_Taken.ec⟩
    · exact ⟨A_TooLong.xf, A_TooLong.ec⟩
  have XF : XFacts K := fun i x hx => by
    have hm := List.mem_of_getElem? hx
    have li : i < 19 := by
      by_cases z : i < XN.length
      · exact z
      · rw [List.getElem?_eq_none (by omega)] at hx
        cases hx
    refine ⟨(xe x hm).2, fun j y hy => ?_, (kn x hm).2.1, (kn x hm).2.2.1, li, fun f hf => ⟨(xe x hm).1, no x f hm hf⟩⟩
    have lj : j < 19 := by
      by_cases z : j < XN.length
      · exact z
      · rw [List.getElem?_eq_none (by omega)] at hy
        cases hy
    rw [(kn x hm).2.2.2 y (List.mem_of_getElem? hy), nd_eq i li j lj x y hx hy]
  have e := hfa.symm.trans (g0 "law" (by decide))
  cases e
  have b := FunD.bindsA (ps := ["_law_script"]) F_law fun _ _ _ _ _ _ us hl => match us, hl with | [_], _ => rfl
  exact ⟨fd_law, fun s v => b s [v] rfl, XF, fun base _ _ => ok_cx0 (ok_law B (c_begun_pen base) (c_new_names base) (c_draw base) (c_numbered base) (c_is_one base) (c_named base) (c_others_right base) F_law)⟩
end Eb
open PySem PySem.W PySem.Calls PyProof.Rows
theorem PySem.Challenge.cw_edgejumps_k18_errors_holds : PySem.Challenge.rw_edgejumps_k18_errors.Holds := by
  w_on; o_law
  refine HandSHeadRun.head_any (r := OpenLaw.row PySem.Challenge.rw_edgejumps_k18_errors) (q := view (OpenLaw.row PySem.Challenge.rw_edgejumps_k18_errors).prog [31]) (H := Eb.hkk) (ob := Eb.obb) (M := 6000) (loose := Eb.loose) (d := HandSHeadRun.topDef (OpenLaw.row PySem.Challenge.rw_edgejumps_k18_errors).prog 31) (kwd := []) Eb.obb_eq
    (by kernel_rfl) (fun s => by kernel_rfl) Eb.runH (by kernel_rfl) (by kernel_rfl) (by kernel_rfl) (by rfl) (by first | assumption | decide +kernel) (by decide +kernel) ⟨rfl, rfl, rfl, rfl, rfl, by decide +kernel⟩ ?hw ?hc
  case hw => w_witness2
  case hc =>
    refine L2.walk_ofE (l := PySem.Challenge.rw_edgejumps_k18_errors) (n := 63) (k := 5) (x := "_law_script") (CX := L2.CX0) rfl (by decide) (by kernel_rfl) ⟨rfl, by decide, by decide⟩ ?F (fun _ _ _ _ z => z)
    intro w mg fa h Y G hmg0
    obtain ⟨K, KX, c⟩ := Y
    have hmg : mg ("law" : PySem.Str) = some (.ref fa) := by
      have e : (HandSHeadRun.topDef (OpenLaw.row PySem.Challenge.rw_edgejumps_k18_errors).prog 31).name = ("law" : PySem.Str) := by kernel_rfl
      rw [← e]
      exact hmg0
    obtain ⟨fd, hb, XF, hF⟩ := Eb.ends w (P := (PySem.Challenge.rw_edgejumps_k18_errors).prog) KX G hmg c
    exact ⟨K, fd, _, KX, hb, fun H a ns hl _ hS => ⟨a, ns, rfl, hS, XF, fun _ => rfl⟩, hF⟩

